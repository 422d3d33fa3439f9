import PyProof.Rows.All
import Wide.All
import OpenK.AllK
import Wide.FinOn
import KE.KExcSuper
import HandS.ForExc
import HandS.ExcInit
import KE.GoesEnum
import HandS.ForMost
import HandS.Walk
import PyProof.EqAt
import PyProof.EqKinds
import PyProof.TupleCall
import HandS.Base
import HandS.Call
import HandS.Exc
import HandS.IsInst
import HandS.TupAny
import HandS.HeadHook1
import HandS.HeadHook2
import HandS.TupMul
import PySem.Challenge.RW_anytwo_k65_which_of_two_wrong_things_is
import HandS.Head0
import HandS.Head1
import HandS.Head2
import HandS.Head3
import HandS.HeadEnd
import HandS.ExcField
import HandS.Deep
import HandS.DictComp
import HandS.TryOnly
set_option Elab.async false
set_option linter.all false
set_option maxRecDepth 100000
set_option maxHeartbeats 0
/-! The program's errors: Refused(what) over ValueError, its __init__ by super(); all others stand under it and have its __init__. -/
namespace PySem
namespace RefX
open PySem.W PySem.Calls PyProof.Rows PySem.HandSPX
/-- the row of super's call -/
abbrev LN : Nat := 9
def iA : Arguments := { posonlyargs := [], args := [{ arg := "self", annotation := none, pos := ⟨LN - 1, 17, LN - 1, 21⟩ }, { arg := "what", annotation := none, pos := ⟨LN - 1, 23, LN - 1, 27⟩ }], vararg := none, kwonlyargs := [], kw_defaults := [], kwarg := none, defaults := [] }
def iB : List Stmt :=
  [.Expr (.Call (.Attribute (.Call (.Name "super" ⟨LN, 8, LN, 13⟩) [] [] ⟨LN, 8, LN, 15⟩) "__init__" ⟨LN, 8, LN, 24⟩) [.Constant (.str "refused") 0 ⟨LN, 25, LN, 34⟩] [] ⟨LN, 8, LN, 35⟩) ⟨LN, 8, LN, 35⟩,
   .Assign [.Attribute (.Name "self" ⟨LN + 1, 8, LN + 1, 12⟩) "what" ⟨LN + 1, 8, LN + 1, 17⟩] (.Name "what" ⟨LN + 1, 20, LN + 1, 24⟩) ⟨LN + 1, 8, LN + 1, 24⟩]
def iS : Scope := { kind := .function, names := [(PySem.Str.ofString "self", .local), (PySem.Str.ofString "what", .local), (PySem.Str.ofString "__class__", .free), (PySem.Str.ofString "super", .globalImplicit)], isGenerator := false, isCoroutine := false, more := [] }
/-- what the written part says of Refused's __init__, at fI; D: Refused -/
structure RefT (prog : Program) (K : Frag) (mg : Str → Option Value) (D fI : Addr) : Prop where
  clsD : ∃ cd, clsIn K D = some cd
  sup : mg "super" = none
  op : nsIn K cStatics "thirdparty.any" = some none
  tI : typeIn K (.ref fI) = some (.type "function")
  fn : ∃ (oc : Value) (od : Option Addr) (doc pm : Value) (an : Option Addr) (cda cc : Addr) (ct : Value) (osl : Array (Option Value)) (ccl : Value) (cdd : Option Addr) (vs : Array Value) (ccs : Array (Option Value)) (file : Str) (tf : Tok) (cl : Value) (cld : Option Addr) (csl : Array (Option Value)),
    K.lookup fI = some ⟨oc, od, .func (ksFn "__init__" "Refused.__init__" iA iB iS .none .none doc pm an (.ref cda) ct cc), osl⟩ ∧ codeIn K (.ref cda) "Refused.__init__" = true ∧
    K.lookup cda = some ⟨ccl, cdd, .fields vs, ccs⟩ ∧ vs[2]? = some (.str file tf) ∧ ((prog.main.file : Str) == file) = true ∧ K.lookup cc = some ⟨cl, cld, .cell (some (.ref D)), csl⟩
  topN : (prog.main.scope.names.lookup ("super" : Str)).isSome = false
/-- .. of an error's class at C -/
structure RefC (K : Frag) (D fI C : Addr) : Prop where
  cls : ∃ nm q N bs bm sn sub ab col dd k0 k1 k2 k3 k5, K.lookup C = some (excClassObj nm q C N bs bm true sn sub ab col dd k0 k1 k2 k3 k5 "ValueError.__new__") ∧ refsVE bm = true
  sa : findIn K (.ref C) "__setattr__" = some (some (.builtin "object.__setattr__"))
  noN : findIn K (.ref C) "what" = some none
  iC : findIn K (.ref C) "__init__" = some (some (.ref fI))
  kC : keepIn K (.ref C) = true
  exC : subIn K (.ref C) (.type "BaseException") = some true
  tyC : typeIn K (.ref C) = some (.type "type")
  sub : mroIn K C (.ref D) = some true
  su : ks_superIn K C D "__init__" = some (some (.builtin "ValueError.__init__"))
  ve : subIn K (.ref C) (.type "ValueError") = some true
theorem one_size (v : Value) : [v].length ≤ sizeLine := by
  rw [sizeLine_eq]
  exact (by decide : 1 ≤ 16777216)
/-- what __init__ leaves of a fresh exception at x -/
structure InitEnd (h h' : Heap) (x C dx t1 : Addr) (v : Value) : Prop where
  keep : ∀ b o, b ≠ x → h.get? b = some o → h'.get? b = some o
  obj : h'.get? x = some { cls := .ref C, dict := some dx, data := .fields #[.ref t1, .none, .none, .none, .bool false, .none] }
  dbig : h.objs.size ≤ dx
  dne : dx ≠ x
  ns : h'.Ns1 dx (fun y => if y = "what" then some v else none)
/-- a made error -/
structure OwnMade (h h' : Heap) (e C d : Addr) (v : Value) : Prop where
  keep : ∀ b o, h.get? b = some o → h'.get? b = some o
  new : h.objs.size ≤ e
  obj : ∃ oe vs, h'.get? e = some oe ∧ oe.cls = .ref C ∧ oe.dict = some d ∧ oe.data = .fields vs ∧ vs[1]? = some .none
  dbig : h.objs.size ≤ d
  dne : d ≠ e
  ns : h'.Ns1 d (fun y => if y = "what" then some v else none)
section
variable {prog : Program} {w : World} {A : Around} {E : Value → Shared → Prop} {R : Result → Shared → Prop} {s : Shared} {K : Frag} {mg mb : Str → Option Value} {D C fI : Addr}
theorem ref_init (T : RefT prog K mg D fI) (TC : RefC K D fI C) {x t0 : Addr} {v : Value} (X : K.In s.heap) (hlim : s.heap.NoLimit) (G : s.heap.Ns mainGlobals mg) (B : s.heap.Ns builtinsNs mb) (hb : mb "super" = some (.type "super"))
    (hx : s.heap.get? x = some (excO C t0)) (hnx : K.lookup x = none) (hroom : A.depth < recursionLimit)
    (hq : ∀ h' tk dx t1, InitEnd s.heap h' x C dx t1 v → R (.ok (.ret .none)) { s with heap := h', toks := tk }) :
    codeAny (model prog w) A (.call (.ref fI) ⟨[.ref x, v], []⟩) R s := by
  obtain ⟨oc, od, doc, pm, an, cda, cc, ct, osl, ccl, cdd, vs, ccs, file, tf, cl, cld, csl, ho, hcd, hcode, hvs, hfile, hcell⟩ := T.fn
  obtain ⟨nm, q, N, bs, bm, sn, sub, ab, col, dd, k0, k1, k2, k3, k5, hC, hbm⟩ := TC.cls
  obtain ⟨cdD, hD⟩ := T.clsD
  have hcl : clsIn K C = some { name := nm, bases := bs, mro := .ref C :: bm, ns := N, qualname := q, hasDict := true, slotNames := sn, subclasses := sub, abstract := ab, collection := col, hasDel := false } := by unfold clsIn; rw [hC] <;> rfl
  refine ks_codeAny_call_defAt (fd := ksFn "__init__" "Refused.__init__" iA iB iS .none .none doc pm an (.ref cda) ct cc) (body := iB) (binds := [("self", .ref x), ("what", v)]) hroom (X _ _ ho) rfl hlim (codeRec_of X hcd) rfl
    (BindsTo.of_eq (by first | rfl | with_unfolding_all rfl)) (show ∀ x ∈ iS.names, x.2 ≠ NameKind.cell by decide) (locs rfl) (fun h₁ hns k => ?_) rfl rfl rfl
  have X₁ : K.In h₁ := X.keeps k
  have hx₁ := k _ _ hx
  have hxL : s.heap.objs.size ≠ x := Nat.ne_of_gt (Heap.lt_size hx)
  have hxC : x ≠ C := fun z => by
    rw [z] at hnx
    rw [hnx] at hC
    cases hC
  obtain ⟨oD, hD1, hD2⟩ : ∃ oD, h₁.get? D = some oD ∧ oD.data = .cls cdD := by
    unfold clsIn at hD
    split at hD
    · rename_i c d cd' sl ho
      cases hD
      exact ⟨_, X₁ _ _ ho, rfl⟩
    · cases hD
  -- super().__init__('refused')
  show wpAt _ _ _ (execs (_ :: _) _) _ _ _
  refine ks_wpAt_execs_cons ?_
  refine ks_wpAt_Expr_any ?_
  refine ks_wpAt_MethodCall ?_
  refine ks_wpAt_super_base (env := ksEnv "Refused.__init__" iS s.heap.objs.size fI (.ref cda) cc) rfl rfl (by decide) rfl (X₁ _ _ ho) rfl rfl rfl (X₁ _ _ hcode) rfl hvs hfile T.topN ?_
  refine ks_loadName_global rfl rfl (loadGlobal_builtin (env := ksEnv "Refused.__init__" iS s.heap.objs.size fI (.ref cda) cc) (G.keeps k) T.sup (B.keeps k) hb ⟨rfl, ?_⟩)
  refine wpAny_loadName_free rfl rfl rfl ⟨_, X₁ _ _ hcell, rfl⟩ ?_
  refine wpAny_loadName_local rfl rfl hns rfl ?_
  refine ks_wpAny_isType_cls hD1 hD2 ⟨rfl, ?_⟩
  refine ks_wpAny_call_super hD1 hD2 hx₁ rfl (fun c z => by cases z) (looks_mroIn X₁ TC.sub) (fun h₂ hso k₂ => ?_)
  have kk₂ : ∀ b o, s.heap.get? b = some o → h₂.get? b = some o := fun b o e => k₂ b o (k b o e)
  have X₂ : K.In h₂ := X.keeps kk₂
  have hx₂ := k₂ _ _ hx₁
  have hsu : alongIn K "__init__" (((.ref C :: bm : List Value).dropWhile (· != .ref D)).drop 1) = some (some (.builtin "ValueError.__init__")) := by
    have z := TC.su
    unfold ks_superIn at z
    rw [hcl] at z
    exact z
  have hI : Looks (model prog w) h₂ (isInstance (.ref x) (.type "ValueError")) true := (InstAt.type (C := C) (ox := excO C t0) (od := none) ⟨hx₂, rfl, rfl, trivial⟩).andThen (looks_subIn X₂ TC.ve)
  refine kxs_getMethod kxs_ValueError hso (looks_opaque X₂ T.op) (l₀ := .ref C :: bm) ?_ rfl X₂ hsu hI hxC (by decide) ?_
  · exact fun A Q E s k q => wpAny_bind ((looks_clsIn X₂ hcl) A _ E s k (wpAny_pure q))
  have hu : (h₂.push (kxs_mw "ValueError.__init__" x)).get? h₂.objs.size = some (kxs_mw "ValueError.__init__" x) := Heap.get?_push_at rfl rfl
  have k₃ : ∀ b o, h₂.get? b = some o → (h₂.push (kxs_mw "ValueError.__init__" x)).get? b = some o := fun b o e => Heap.get?_push_of_some _ e
  refine kxs_callWith (i := "ValueError.__init__") (x := x) rfl ?_
  refine evalArgs_plain ?_
  refine Calls.spliced_cons (x := eval (.Constant (.str "refused") 0 ⟨LN, 25, LN, 34⟩) _) (Calls.Constant_str (Calls.spliced_nil ?_))
  refine ⟨hu, ?_⟩
  have hx₃ := k₃ _ _ hx₂
  have hC₃ := k₃ _ _ (X₂ _ _ hC)
  show wpAny _ _ (call (.ref h₂.objs.size) [.str "refused" _]) _ _ _
  refine wpAny_call (codeAny_of_tree ?_)
  show wpAny _ (Around.in1 _) (callAny (.ref h₂.objs.size) ⟨[.str "refused" _], []⟩) _ _ _
  simp only [callAny]
  refine wpAny_bind (wpAny_load hu ?_)
  simp only [kxs_mw, show (Value.type "method-wrapper" == Value.type "method" || Value.type "method-wrapper" == Value.type "builtin_function_or_method" || Value.type "method-wrapper" == Value.type "method-wrapper") = true by decide, if_true]
  refine KFB.if_so (by decide) ?_
  refine wpAny_bind (check_bound_init F.excBase_ValueError.toExcCallFacts hC₃ hx₃ rfl ?_)
  refine wpAny_bind (wpAny_pure (wpAny_pure ?_))
  refine ⟨plainId_quiet F.excBase_ValueError.init.plain _, codeAny_builtin F.excBase_ValueError.initEntry ?_⟩
  refine exc_init_tree (cls := .ref C) (t0 := t0) (dv := none) (c2 := .none) (c3 := .none) (b4 := .bool false) hx₃ (one_size _) fun h₄ k₄ hx₄ _ => ?_
  -- self.what = what
  have nL : s.heap.objs.size ≠ x := hxL
  obtain ⟨oL, esL, epL, hL, rL⟩ := id hns
  have up : ∀ b o, b ≠ x → h₁.get? b = some o → h₄.get? b = some o := fun b o hb e => k₄ b o hb (k₃ b o (k₂ b o e))
  have hns₄ : h₄.Ns s.heap.objs.size (fun y => ([("self", Value.ref x), ("what", v)] : List (Str × Value)).reverse.lookup y) := ⟨oL, esL, epL, up _ _ nL hL, rL⟩
  have X₄ : K.In h₄ := fun b o e => up b o (fun z => by rw [z, hnx] at e; cases e) (X₁ b o e)
  have hsz₄ : h₂.objs.size ≤ h₄.objs.size := by
    exact Nat.le_of_lt (Heap.lt_size (k₄ _ _ (Nat.ne_of_gt (Heap.lt_size hx₂)) hu))
  have z₁ : s.heap.objs.size < h₂.objs.size := Heap.lt_size (k₂ _ _ hL)
  show wpAt _ _ _ (execs _ _) _ _ _
  refine wpAt_of_wpAny (wpAny_execs_cons (plainObj_wpAny_Assign_Attribute ?_))
  refine wpAny_Name (wpAny_loadName_local rfl rfl hns₄ rfl ?_) (by decide)
  refine wpAny_Name (wpAny_loadName_local rfl rfl hns₄ rfl ?_) (by decide)
  refine set_plain X₄ (ox := excO C _) (od := none) ⟨hx₄, rfl, rfl, trivial⟩ TC.sa ?_
  refine exc_osa X₄ hx₄ hcl (show refsVE (.ref C :: bm) = true from hbm) rfl TC.noN (fun h₅ tk₅ dx k₅ dn dne hx₅ hn₅ => ?_)
  show wpAny _ _ (execs _ _) _ _ _
  exact wpAny_execs_nil (hq h₅ tk₅ dx _ ⟨fun b o hb e => k₅ b o hb (up b o hb (k b o e)), hx₅, Nat.le_trans (Nat.le_trans (Nat.le_of_lt z₁) hsz₄) dn, dne, hn₅⟩)
theorem ref_made (T : RefT prog K mg D fI) (TC : RefC K D fI C) {v : Value} (X : K.In s.heap) (hlim : s.heap.NoLimit) (G : s.heap.Ns mainGlobals mg) (B : s.heap.Ns builtinsNs mb) (hb : mb "super" = some (.type "super")) (hroom : A.depth + 1 < recursionLimit)
    (hq : ∀ h' tk e d, OwnMade s.heap h' e C d v → R (.ok (.ret (.ref e))) { s with heap := h', toks := tk }) :
    codeAny (model prog w) A (.call (.ref C) ⟨[v], []⟩) R s := by
  obtain ⟨nm, q, N, bs, bm, sn, sub, ab, col, dd, k0, k1, k2, k3, k5, hC, hbm⟩ := TC.cls
  obtain ⟨hp, g, dr, tk, os⟩ := s
  have k : ∀ b o, hp.get? b = some o → ((hp.push (kdv_tup [v])).push (excO C hp.objs.size)).get? b = some o := fun b o e => Heap.get?_push_of_some _ (Heap.get?_push_of_some _ e)
  have hget : ((hp.push (kdv_tup [v])).push (excO C hp.objs.size)).get? (hp.objs.size + 1) = some (excO C hp.objs.size) := by heap_get
  have hnx : K.lookup (hp.objs.size + 1) = none := by
    cases e : K.lookup (hp.objs.size + 1) with
    | none => rfl
    | some o =>
      have z : hp.get? (hp.objs.size + 1) = some o := X _ _ e
      exact absurd (Nat.lt_of_succ_lt (Heap.lt_size z)) (Nat.lt_irrefl _)
  refine call_own F.excBase_ValueError (fun X => refsVE_contains X bm hbm) (X _ _ hC) (looks_findIn X TC.iC) (fun self => bind_fn X self T.tI) (one_size v) ?_
  refine ref_init (s := ⟨(hp.push (kdv_tup [v])).push (excO C hp.objs.size), g, dr, tk, os⟩) T TC (X.keeps k) (hlim.keeps k) (G.keeps k) (B.keeps k) hb hget hnx ?_ fun h' tk' dx t1 ⟨k', hx, dn, dne, hns⟩ => ?_
  · show A.depth + 1 < recursionLimit
    exact hroom
  · have old : ∀ b o, hp.get? b = some o → h'.get? b = some o := fun b o e => k' b o (Nat.ne_of_lt (Nat.lt_succ_of_lt (Heap.lt_size e))) (k b o e)
    have z : hp.objs.size + 1 + 1 ≤ dx := by
      first
        | (simpa only [Heap.size_push] using dn)
        | exact dn
        | (have q := dn; rw [Heap.size_push, Heap.size_push] at q; exact q)
    exact ⟨rfl, hq h' tk' (hp.objs.size + 1) dx ⟨old, Nat.le_succ _, ⟨_, _, hx, rfl, rfl, rfl, rfl⟩, Nat.le_trans (Nat.le_trans (Nat.le_succ _) (Nat.le_succ _)) z, dne, hns⟩⟩
end
end RefX
end PySem
namespace L2
open PySem PySem.Spec PyProof.Rows
theorem relO_what {v : V} {v' : Value} (r : RelV v v') (f : Str) : RelO (List.lookup f [(("what" : Str), v)]) (if f = "what" then some v' else none) := by
  by_cases hw : f = "what"
  · subst hw
    rw [if_pos rfl]
    have q : List.lookup ("what" : Str) [(("what" : Str), v)] = some v := by simp [List.lookup]
    rw [q]
    exact r
  · rw [if_neg hw]
    have qw : (f == ("what" : Str)) = false := by simpa using hw
    have q2 : List.lookup f [(("what" : Str), v)] = none := by simp [List.lookup, qw]
    rw [q2]
    trivial
section
variable {X : Cx} {D C fI : Addr} {x : Str}
/-- C(e), an error of the program's own -/
def tMkR (C : Addr) (ta : TA) : L2.St → Hp → XK → Prop := fun σ H Q => ta σ H fun vs H1 => ∃ v, vs = [v] ∧ ∀ d, H1 d = none → Q (.ref C) (some d) (upd H1 d (.xd [(("what" : Str), v)]))
theorem pmk_ref {a : Expr} {ta : TA} {p pos : Pos} {k : Nat} (T : PySem.RefX.RefT X.prog X.K X.mg D fI) (TC : PySem.RefX.RefC X.K D fI C) (gC : X.mg x = some (.ref C)) (hr : Room k X.A) (ha : PA X [a] ta) (hg : Gl X x := by rfl) (hdb : (x == ("__debug__" : Str)) = false := by decide)
    (he : starEach (a :: []) X.env = (false, eval a X.env) :: starEach [] X.env := by rfl) (hpl : (backTo pos (starEach [] X.env)).any (·.1) = false := by rfl) :
    PMk X (.Call (.Name x p) [a] [] pos) (tMkR C ta) := by
  intro pins s σ H Q I h
  refine wpAny_Call_Name_kw (ld_glob I hg gC ?_ hdb)
  refine PySem.W.callWith_K (h₀ := X.base) I.ok.mod.kin TC.kC (thn (ha.run pos pins s σ H _ I h) fun us s1 hh => ?_) he hpl
  obtain ⟨vs, H1, I1, r1, v, ev, q1⟩ := hh
  subst ev
  refine ⟨I1.kIn, ?_⟩
  cases r1 with
  | cons rv rn =>
    rename_i v' us'
    cases rn
    show wpAny _ _ (call (.ref C) [v']) _ _ _
    have hlim := I1.nolimit
    obtain ⟨mb, hB, hBb⟩ := I1.mod.blt
    have GB := hB.keeps I1.bk
    have GG := I1.mod.glob.keeps I1.bk
    obtain ⟨hp, g, dr, tk, os⟩ := s1
    refine wpAny_call (PySem.RefX.ref_made T TC I1.kIn hlim GG GB ((hBb "super" (by decide +kernel)).trans (by first | rfl | decide +kernel | kernel_rfl)) (by have := hr.dp; omega) fun h' tk' e d M => ?_)
    show MkP X pins σ Q (.ref e) ⟨h', g, dr, tk', os⟩
    obtain ⟨oe, fv, hoe, hc, hd, hdat, h1⟩ := M.obj
    have hns := M.ns
    obtain ⟨G', g1, g2⟩ := restrict h' fun b => decide (b ≠ e)
    have gk : ∀ b, b ≠ e → G'.get? b = h'.get? b := fun b hb => g1 b (decide_eq_true hb)
    have ge : G'.get? e = none := g2 e (by simp)
    have old : ∀ b o, hp.get? b = some o → G'.get? b = some o := fun b o q => (gk b (Nat.ne_of_lt (Nat.lt_of_lt_of_le (Heap.lt_size q) M.new))).trans (M.keep b o q)
    have ob : ObjOk X.prog X.w (upd H1 d (.xd [(("what" : Str), v)])) G' d (.xd [(("what" : Str), v)]) :=
      ⟨_, hns.at (fun o q => (gk d M.dne).trans q), fun f => relO_what rv f⟩
    have J : Inv X pins σ (upd H1 d (.xd [(("what" : Str), v)])) ⟨G', g, dr, tk', os⟩ := I1.laid (t' := tk') old M.dbig ob
    refine ⟨e, oe, fv, ⟨G', g, dr, tk', os⟩, _, .ref C, some d, rfl, J, fun b o q => ?_, ge, hoe, ⟨hc, hd⟩, hdat, h1, ?_, rfl, I1.bare, raises_own TC.exC TC.tyC, q1 d (I1.hok.fresh M.dbig)⟩
    · by_cases hb : b = e
      · have q' : G'.get? b = some o := q
        rw [hb, ge] at q'; cases q'
      · exact (gk b hb).symm.trans q
    · rw [upd_ne (Ne.symm M.dne)]
      exact I1.hok.fresh M.new
/-- raise C(e) -/
def tRaiseR (C : Addr) (W : WX) (ta : TA) : TS := fun _ σ H => tMkR C ta σ H fun cls d H' => W cls d σ H'
theorem ps_raiseR {a : Expr} {ta : TA} {W : WX} {p pos pos2 : Pos} {k : Nat} (hc : X.calm = true) (T : PySem.RefX.RefT X.prog X.K X.mg D fI) (TC : PySem.RefX.RefC X.K D fI C) (gC : X.mg x = some (.ref C)) (hr : Room k X.A) (tk : Takes X W) (ha : PA X [a] ta) (hg : Gl X x := by rfl) (hdb : (x == ("__debug__" : Str)) = false := by decide)
    (he : starEach (a :: []) X.env = (false, eval a X.env) :: starEach [] X.env := by rfl) (hpl : (backTo pos (starEach [] X.env)).any (·.1) = false := by rfl) :
    PS X (.Raise (some (.Call (.Name x p) [a] [] pos)) none pos2) (tRaiseR C W ta) := ps_raise hc tk (pmk_ref T TC gC hr ha hg hdb he hpl)
end
end L2
/-! enumerate over a tuple -/
namespace PySem
set_option maxHeartbeats 1000000 in
theorem meets_enumerate_newB1 {v : Value} {o : Obj} {H : Heap → Prop} (B : Begins v o H) :
    Meets (Builtin.«enumerate.__new__» ⟨[.type "enumerate", v], []⟩) (fun _ R s => H s.heap ∧
      R (.ok (.ret (.ref (s.heap.push o).objs.size))) { s with heap := (s.heap.push o).push { cls := .type "enumerate", data := .fields #[.none, .bool false, .ref s.heap.objs.size, rawInt 0, .none, .none] } }) :=
  .of_wp fun prog w A R s h => by
    obtain ⟨hp, g, d, tk, os⟩ := s; obtain ⟨h1, h⟩ := h
    have hsub := sub_enumerate
    have q1 : ∀ {A' : Around} {E : Value → Shared → Prop} {Q : Value → Shared → Prop}, Q (.ref hp.objs.size) ⟨hp.push o, g, d, tk, os⟩ → wpAny (model prog w) A' (pyIter v) Q E ⟨hp, g, d, tk, os⟩ :=
      fun q => B.iter prog w _ _ ⟨hp, g, d, tk, os⟩ _ h1 q
    wp_walk using q1
    refine wpAny_stack_any fun st => wpAny_pure ?_
    split
    · rename_i c _ _ _ _ _
      cases (c == Value.type "enumerate")
      · wp_walk using q1
        exact ⟨_, rfl, h⟩
      · wp_walk using q1
        exact ⟨_, rfl, h⟩
    · wp_walk using q1
      exact ⟨_, rfl, h⟩
theorem call_enumerate_tup {prog : Program} {w : World} {A : Around} {E : Value → Shared → Prop} {s : Shared} {l : Addr} {items : Array Value} {Q : Value → Shared → Prop} (h1 : s.heap.IsTuple l items)
    (h : ∀ h', IsEnum h' (s.heap.objs.size + 1) s.heap.objs.size 0 .none → h'.IsTupleIter s.heap.objs.size l 0 → h'.objs.size = s.heap.objs.size + 2 →
      (∀ b o, s.heap.get? b = some o → h'.get? b = some o) → Q (.ref (s.heap.objs.size + 1)) { s with heap := h' }) :
    wpAny (model prog w) A (call (.type "enumerate") [.ref l]) Q E s := by
  refine callType_new F.called_enumerate (by decide) (F.typeCall_enumerate_1 _) (F.newCall_enumerate_1 _) (fun obj => F.args_object_init_2 obj _) F.entry_enumerate_new
    (meets_enumerate_newB1 (begins_tuple l items)) ⟨h1, ?_⟩
  have hz : (s.heap.push { cls := .type "tuple_iterator", data := .fields #[.ref l, .int 0 0] }).objs.size = s.heap.objs.size + 1 := Heap.size_push ..
  show _ ∧ _
  rw [hz]
  have he : IsEnum ((s.heap.push { cls := .type "tuple_iterator", data := .fields #[.ref l, .int 0 0] }).push { cls := .type "enumerate", data := .fields #[.none, .bool false, .ref s.heap.objs.size, rawInt 0, .none, .none] }) (s.heap.objs.size + 1) s.heap.objs.size 0 .none := by
    have := Heap.get?_push_size (s.heap.push { cls := .type "tuple_iterator", data := .fields #[.ref l, .int 0 0] }) (o := { cls := .type "enumerate", data := .fields #[.none, .bool false, .ref s.heap.objs.size, rawInt 0, .none, .none] }) rfl
    rw [hz] at this; exact this
  refine ⟨⟨_, he, rfl⟩, h _ he ⟨_, Heap.get?_push_of_some _ (Heap.get?_push_size _ rfl), rfl, rfl⟩ (by rw [Heap.size_push, hz]) fun b o x => Heap.get?_push_of_some _ (Heap.get?_push_of_some _ x)⟩
end PySem
namespace L2
open PySem PySem.Spec PyProof.Rows
/-- the tuple at a, each item in a new pair -/
def Iut (K : PySem.W.Frag) (a : Addr) : It :=
  ⟨fun i H => ∃ (xs : List V) (x : V), SqT K H a xs ∧ xs[i]? = some x, fun i H v H' => ∃ T x, v = .ref T ∧ H T = none ∧ H' = upd H T (.tup [.int (i : Nat), x]) ∧ ∀ xs, SqT K H a xs → xs[i]? = some x, fun i H => ∃ xs : List V, SqT K H a xs ∧ xs.length ≤ i⟩
theorem turn_enumT {P : Program} {w : World} {K : PySem.W.Frag} {elts : List Expr} {kk : Nat} {tpos : Pos} (a e it : Addr) :
    Turn P w K (.Tuple elts kk tpos) (Iut K a) [e, it] e (fun i h => (∃ old, IsEnum h e it ((i : Nat) : Int) old) ∧ h.IsTupleIter it a i ∧ e ≠ it) where
  mem := by simp
  obj := fun i h st b hb => by
    obtain ⟨⟨old, he⟩, ⟨o, ho, hc, hd⟩, _⟩ := st
    have e' : b = e ∨ b = it := by simpa using hb
    rcases e' with z | z
    · rw [z]; exact ⟨_, he, fun v q => nomatch q⟩
    · rw [z]; exact ⟨o, ho, fun v q => by rw [hd] at q; cases q⟩
  keep := fun i h h' st k => let ⟨⟨old, he⟩, hi, hne⟩ := st; ⟨⟨old, k e (by simp) _ he⟩, hi.at fun o q => k it (by simp) o q, hne⟩
  item := by
    intro X hP hw hK hc i pins s σ H E I hf st hg
    subst hP hw hK
    obtain ⟨⟨old, he⟩, hit, hne⟩ := st
    obtain ⟨xs, x, hq, hx⟩ := hg
    obtain ⟨its, rv, p, hz⟩ := I.tuple hq
    have p' : s.heap.IsTuple a its.toArray := p
    obtain ⟨u, hu, ru⟩ := rv.get hx
    have hel : e < s.heap.objs.size := Heap.lt_size he
    have hil : it < s.heap.objs.size := by obtain ⟨_, q, _⟩ := hit; exact Heap.lt_size q
    have hai : a ≠ it := fun z => by
      obtain ⟨o1, q1, c1, _⟩ := hit
      obtain ⟨o2, q2, c2, _⟩ := p'
      rw [z, q1] at q2
      cases q2
      rw [c1] at c2
      exact absurd c2 (by decide)
    have hae : e ≠ a := fun z => by
      obtain ⟨o2, q2, c2, _⟩ := p'
      rw [← z, he] at q2
      cases q2
      have c3 : Value.type "enumerate" = Value.type "tuple" := c2
      exact absurd c3 (by decide)
    have hlt : i < its.toArray.size := by
      have q := (List.getElem?_eq_some_iff.mp hu).1
      simpa using q
    refine wpAny_pyNext_enum_itemD (Draws.tuple (A := X.A.in1) (show X.A.in1.handled = none from I.ok.hd hc) it a hai its.toArray) he ⟨hit, p'⟩ hlt hne (by simp [hne, hae]) fun y h' tk hy ho hit' hT hsz hk => ?_
    have ey : y = u := by
      have q : its.toArray[i]? = some y := hy
      rw [show its.toArray[i]? = its[i]? by simp, hu] at q
      exact (Option.some.inj q).symm
    subst ey
    refine ⟨_, rfl, wpAny_letOwnedTupleGo_enum (s := { s with heap := h', toks := tk + 1 }) ho fun h'' he' sb => ?_⟩
    have hT2 : h''.get? s.heap.objs.size = some { cls := .type "tuple", data := .seq #[.int i tk, y] } := (sb.2 _ (Nat.ne_of_gt hel)).trans hT
    have new : ObjOk X.prog X.w (upd H s.heap.objs.size (.tup [.int (i : Nat), x])) h'' s.heap.objs.size (.tup [.int (i : Nat), x]) :=
      ⟨by show 2 ≤ sizeLine; decide, [.int i tk, y], .cons ⟨_, rfl⟩ (.cons ru .nil), ⟨_, hT2, rfl, _, rfl⟩⟩
    have I1 : Inv X pins σ (upd H s.heap.objs.size (.tup [.int (i : Nat), x])) { s with heap := h'', toks := tk + 1 } :=
      I.turnedNew (ch := [e, it]) (fun b ob hb q => (sb.2 b (fun z => hb (by simp [z]))).trans (hk b ob (fun z => hb (by simp [z])) (fun z => hb (by simp [z])) q)) hf (Nat.le_refl _) new
    refine ⟨.ref s.heap.objs.size, _, I1, rfl, ⟨_, x, rfl, I.hok.fresh (Nat.le_refl _), rfl, fun ys hy => by rw [I.tuple_inj hy hq]; exact hx⟩, ⟨⟨y, ?_⟩, hit'.1.at fun o q => (sb.2 it (Ne.symm hne)).trans q, hne⟩, fun b hb => ?_⟩
    · have e1 : ((i + 1 : Nat) : Int) = (i : Int) + 1 := by omega
      rw [e1]; exact he'
    · have hb' : b < s.heap.objs.size := by
        have e' : b = e ∨ b = it := by simpa using hb
        rcases e' with z | z
        · rw [z]; exact hel
        · rw [z]; exact hil
      rw [upd_ne (Nat.ne_of_lt hb')]
      exact (hf b hb).1
  done := by
    intro X hP hw hK hc i pins s σ H E I hf st hg
    subst hP hw hK
    obtain ⟨⟨old, he⟩, hit, hne⟩ := st
    obtain ⟨xs, hq, hx⟩ := hg
    obtain ⟨its, rv, p, hz⟩ := I.tuple hq
    have p' : s.heap.IsTuple a its.toArray := p
    obtain ⟨f0, f1, f2, f3, f4, f5⟩ := hf it (by simp)
    have hl := rv.length
    have hai : a ≠ it := fun z => by
      obtain ⟨o1, q1, c1, _⟩ := hit
      obtain ⟨o2, q2, c2, _⟩ := p'
      rw [z, q1] at q2
      cases q2
      rw [c1] at c2
      exact absurd c2 (by decide)
    have D : Draws X.prog X.w X.A.in1 it [it, a] 0 (fun i v => its.toArray[i]? = some v) (fun j h => h.IsTupleIter it a (i + j) ∧ h.IsTuple a its.toArray) := {
      live := fun _ _ st => let ⟨o, ho, _⟩ := st.1; ⟨o, ho⟩
      frame := fun _ _ _ st hk => ⟨st.1.at fun o e => hk it (by simp) o e, st.2.at fun o e => hk a (by simp) o e⟩
      item := fun j s' Q' E' hj st' hQ' => absurd hj (Nat.not_lt_zero _)
      done := fun s' Q' E' st' hE' => wpAny_nextOf_tuple_end (A := X.A.in1) (show X.A.in1.handled = none from I.ok.hd hc) st'.1 st'.2 (by simp; omega) hE' }
    exact wpAny_pyNext_enum_endD D he ⟨hit, p'⟩ fun h' eb => ⟨rfl, I.turned (t' := s.toks) (fun b o hb q => eb b o hb q) f0 f1 f3 f4 f5⟩
  self := fun A i s Q E st h => let ⟨⟨_, he⟩, _⟩ := st; wpAny_pyIter_enum he h
def iEnumT (K : PySem.W.Frag) (ta : TA) : TI := fun σ H R => ta σ H fun vs H1 => ∃ a xs, vs = [.ref a] ∧ SqT K H1 a xs ∧ R (Iut K a) H1
theorem pi_enumT {X : Cx} {e : Expr} {ta : TA} {p pos tpos : Pos} {elts : List Expr} {kk : Nat} (hg : Gl X "enumerate") (hm : X.mg "enumerate" = none) (ha : PA X [e] ta) (hs : starEach [e] X.env = [(false, eval e X.env)] := by rfl) :
    PI X (.Tuple elts kk tpos) (.Call (.Name "enumerate" p) [e] [] pos) (iEnumT X.K ta) := by
  refine ⟨fun pins s σ H R I h => ?_⟩
  refine Call_ (ld_blt I hg hm boot_enumerate (PyProof.Rows.callWith_type1 (thn (ha.run pos pins s σ H _ I h) fun us s1 ⟨vs, H1, I1, r1, q1⟩ => ?_) hs rfl))
  obtain ⟨a, xs, ex, hq, q⟩ := q1
  subst ex
  cases r1 with
  | cons r rr =>
    cases rr
    cases r
    obtain ⟨its, rv, p', hz⟩ := I1.tuple hq
    refine call_enumerate_tup (show s1.heap.IsTuple a its.toArray from p') fun h' he hit hsz hk => wpAny_pyIter_enum he ?_
    have I2 : Inv X pins σ H1 { s1 with heap := h' } := I1.kept (t' := s1.toks) hk
    refine ⟨s1.heap.objs.size + 1, [s1.heap.objs.size + 1, s1.heap.objs.size], _, _, H1, rfl, I2, turn_enumT a (s1.heap.objs.size + 1) s1.heap.objs.size, ⟨⟨.none, he⟩, hit, Nat.succ_ne_self _⟩, fun b hb => ?_, q⟩
    have e' : b = s1.heap.objs.size + 1 ∨ b = s1.heap.objs.size := by simpa using hb
    have hle : s1.heap.objs.size ≤ b := by
      rcases e' with z | z
      · rw [z]; exact Nat.le_add_right _ _
      · rw [z]; exact Nat.le_refl _
    exact I1.fpOk hle (I1.hok.fresh hle)
theorem walk_enumT {K : PySem.W.Frag} {a : Addr} {xs : List V} : Walk (Iut K a) xs.length (fun H => SqT K H a xs) (YPair (fun i => some (.int (i : Nat))) (fun i => xs[i]?)) := by
  refine ⟨fun i _ hi q => ⟨xs, xs[i], q, by simp [hi]⟩, fun _ q => ⟨xs, q, Nat.le_refl _⟩, fun i H v H' _ q y => ?_⟩
  obtain ⟨T, x, h1, h2, h3, h4⟩ := y
  exact ⟨T, .int (i : Nat), x, h1, h2, h3, rfl, h4 xs q⟩
end L2
/-! several except clauses, each with a name -/
namespace L2
open PySem PySem.Spec PyProof.Rows
/-- what the clauses wish of an exception of the body, one after the other; slot i is the name's -/
def wManyAs (K : PySem.W.Frag) (i : Nat) (Wout : WX) (D : Ends) : List (Value × (Addr → Value → Option Addr → TS)) → WX
  | [] => Wout
  | (c, ts) :: r => fun cls d σ H => ∃ b, PySem.W.exmOne K cls c = some b ∧
    (b = true → ∀ a, H a = none → ts a cls d { nx := fun σ' H' => D.nx (σ'.set i none) H', rt := D.rt, bk := fun σ' H' => D.bk (σ'.set i none) H', ct := fun σ' H' => D.ct (σ'.set i none) H' } (σ.set i (some (.ref a))) H) ∧
    (b = false → wManyAs K i Wout D r cls d σ H)
inductive HdsAs (X : Cx) (n : Str) : List ExceptHandler → List (Value × (Addr → Value → Option Addr → TS)) → Prop
  | nil : HdsAs X n [] []
  | cons {x : Str} {c : Value} {ts : Addr → Value → Option Addr → TS} {b₀ : Stmt} {suite : List Stmt} {np pos' : Pos} {hds : List ExceptHandler} {l : List (Value × (Addr → Value → Option Addr → TS))} (hc : Names X x c)
      (hsu : ∀ (a : Addr) (oe : Obj) (cls : Value) (d : Option Addr) (pn : List (Addr × Obj)), Zc cls d oe → (∃ vs, oe.data = .fields vs) → PSs (X.suite a ((a, oe) :: pn)) (b₀ :: suite) (ts a cls d)) (r : HdsAs X n hds l) :
      HdsAs X n (.ExceptHandler (some (.Name x np)) (some n) (b₀ :: suite) pos' :: hds) ((c, ts) :: l)
section
variable {X : Cx} {n : Str} {i : Nat} {body : List Stmt} {h₀ : ExceptHandler} {hds : List ExceptHandler} {l : List (Value × (Addr → Value → Option Addr → TS))} {pos : Pos} {tb : WX → TS} {Wout : WX}
theorem ps_try_manyAs (hs : X.stack = X.env :: X.outer) (hf : X.env.frame = some X.env.locals) (hN : X.N.Nodup) (hi : X.N[i]? = some n) (hln : X.env.kindOf n = some .local) (tk : Takes X Wout)
    (hb : ∀ (W : WX) (pn : List (Addr × Obj)) (xe : Value → Shared → Prop), Takes (X.tr pn xe) W → PassesOwn (model X.prog X.w) X.A X.env xe → PSs (X.tr pn xe) body (tb W))
    (hh : HdsAs X n (h₀ :: hds) l) : PS X (.Try body (h₀ :: hds) [] [] pos) (fun D σ H => tb (wManyAs X.K i Wout D l) D σ H) := by
  refine ⟨fun pins s σ H D I h => ?_⟩
  have ok := I.ok
  have hfr : X.A.frames = some (X.env :: X.outer) := by rw [ok.frames, hs]
  have hloc : Loc X.env.scope n := .inl hln
  refine wpAny_Try_except ?_
  refine wpAny_mono ((hb (wManyAs X.K i Wout D l) (X.pn ++ pins) (fun e s₁ => wpAny (model X.prog X.w) X.A (noteFrame e X.env) (fun _ s₂ => wpAny (model X.prog X.w) X.A (setFlight e none) (fun _ s₃ =>
    wpAny (model X.prog X.w) X.A (handleBy e X.env (h₀ :: hds)) (SP X pins D) X.xe s₃) X.xe s₂) X.xe s₁) (fun u s' xx => ?_) PassesOwn.looking).run [] s σ H D (I.toTry _) h) (fun f s1 hsp => ?_) (fun e s1 he => he)
  · -- the catch
    obtain ⟨a, B, sI, pins', σ', H', cls, d, rfl, J', nb, up, sky, na, os, ag, w⟩ := xx
    have J : Inv X pins σ' H' sI := J'.ofTry ok
    have sky' : Sky B (X.env :: X.outer) a (Zc cls d) X.env.locals s'.heap := by rw [← hs]; exact sky
    show wpAny (model X.prog X.w) X.A (noteFrame (.ref a) X.env) _ _ _
    refine Sky.land Zc.steady hfr hf sky' fun h3 fl3 up3 => ?_
    have J3 : Inv X pins σ' H' { s' with heap := h3 } := J.landed nb fl3.1 (up.trans up3) os ag
    obtain ⟨oe3, vs3, he3, hz3, hd3⟩ := fl3.there
    have notFr : ∀ {h : Heap} {o : Obj} {vs : Array Value}, h.FunFrames B (X.env :: X.outer) → h.get? a = some o → o.data = .fields vs → a ∉ frs (X.env :: X.outer) := fun {h o vs} ff e dd hm => by
      obtain ⟨_, o', e', hnf⟩ := ff.mem hm
      rw [e] at e'; cases e'
      exact hnf _ dd
    have nfr := notFr fl3.2.2.1 he3 hd3
    have nL : a ≠ X.env.locals := fun z => nfr (List.mem_filterMap.mpr ⟨X.env, List.mem_cons_self, by rw [hf, z]⟩)
    have nF : a ∉ X.fs := fun hm => by
      obtain ⟨e, he, q⟩ := List.mem_filterMap.mp hm
      exact nfr (List.mem_filterMap.mpr ⟨e, List.mem_cons_of_mem _ he, q⟩)
    have S3 := J3.suite he3 hd3 na nL nF
    have go : ∀ {hds' : List ExceptHandler} {l' : List (Value × (Addr → Value → Option Addr → TS))}, HdsAs X n hds' l' → wManyAs X.K i Wout D l' cls d σ' H' →
        wpAny (model X.prog X.w) X.A (handleBy (.ref a) X.env hds') (SP X pins D) X.xe { s' with heap := h3 } := by
      intro hds' l' hk
      induction hk with
      | nil =>
        intro w
        refine wpAny_handleBy_nil ?_
        obtain ⟨k1, k2, k3, oe, vs, T, oT, ts', he, hz, hd, h1, hr⟩ := id fl3
        unfold PySem.passOn
        refine wpAny_bind (wpAny_field he hd h1 ?_)
        rw [if_neg (show ¬ ((Value.ref T == Value.none) = true) from by simp)]
        have fin : wpAny (model X.prog X.w) X.A (setFlight (.ref a) X.env.frame) (fun _ s4 => wpAny (model X.prog X.w) X.A (throw (.ref a) : Sem Flow) (SP X pins D) X.xe s4) X.xe { s' with heap := h3 } := by
          rw [hf]
          refine HandSPX.setFlight_upZ fl3 fun h4 hh4 up4 => wpAny_throw (tk _ _ ?_)
          exact ⟨a, B, sI, pins, σ', H', cls, d, rfl, J, nb, (up.trans up3).trans up4, .inr (.inr (by rw [hs]; exact hh4)), na, os, ag, w⟩
        first
          | exact wpAny_bind (wpAny_pure (wpAny_bind fin))
          | exact wpAny_bind fin
      | @cons x c ts b₀ suite np pos' hds2 l2 hc hsu r ih =>
        intro w
        obtain ⟨b, hb1, hyes, hno⟩ := w
        refine wpAny_handleBy_cons (codeAny_handlers_test ?_) (by intro q; cases q)
        have LT : PySem.W.Looks (model X.prog X.w) h3 (typeOf (.ref a)) cls := fun A Q E s k q => wpAny_typeOf_ref (k _ _ he3) (by rw [hz3.1]; exact q)
        have LM := PySem.W.exm_one (M := model X.prog X.w) (J3.kIn) LT hb1
        have test : ∀ {Q : Value → Shared → Prop} {E : Value → Shared → Prop}, Q c { s' with heap := h3 } → wpAny (model X.prog X.w) (X.A.mark (some (.ref a))) (eval (.Name x np) X.env) Q E { s' with heap := h3 } := fun {Q E} q => by
          obtain ⟨hg, hdbg, hm | ⟨hm, hv, hnn⟩⟩ := hc
          · exact ld_glob (X := X.suite a ((a, oe3) :: (X.pn ++ pins))) S3 hg hm q hdbg
          · exact ld_blt (X := X.suite a ((a, oe3) :: (X.pn ++ pins))) S3 hg hm hv q hnn hdbg
        refine test (LM.here ?_)
        cases b with
        | true =>
          refine codeAny_handlers_suite_as ?_
          refine HandSPX.lands_againZ fl3 fun h4 fl4 up4 => ?_
          have J4 : Inv X pins σ' H' { s' with heap := h4 } := J.landed nb fl4.1 ((up.trans up3).trans up4) os ag
          obtain ⟨oe4, vs4, he4, hz4, hd4⟩ := fl4.there
          have S4 := J4.suite he4 hd4 na nL nF
          refine store_ok (X := X.suite a ((a, oe4) :: (X.pn ++ pins))) (v := .ref a) S4 hN hi hloc rfl (fun s5 S5 => ?_) (.inr hln)
          refine wpAny_mono ((hsu a oe4 cls d (X.pn ++ pins) hz4 ⟨_, hd4⟩).run [] s5 _ H' _ S5 (hyes rfl a na)) (fun f s6 hsp => ?_) (fun _ _ z => False.elim z)
          have end_ : ∀ {σ6 : St} {H6 : Hp} {Q : Shared → Prop}, Inv (X.suite a ((a, oe4) :: (X.pn ++ pins))) [] σ6 H6 s6 → (∀ s7, Inv X pins (σ6.set i none) H6 s7 → Q s7) →
              wpAny (model X.prog X.w) X.A (do bindName X.env n .none; unbindBehindTheSuite X.env n pos') (fun _ s7 => Q s7) X.xe s6 := fun {σ6 H6 Q} S6 hq => gone_ok (S6.unsuite ok) hN hi hln hq
          cases f with
          | next =>
            obtain ⟨σ6, H6, S6, q6⟩ := hsp
            exact end_ S6 fun s7 J7 => ⟨_, _, J7, q6⟩
          | brk =>
            obtain ⟨σ6, H6, S6, q6⟩ := hsp
            exact end_ S6 fun s7 J7 => ⟨_, _, J7, q6⟩
          | cont =>
            obtain ⟨σ6, H6, S6, q6⟩ := hsp
            exact end_ S6 fun s7 J7 => ⟨_, _, J7, q6⟩
          | ret u =>
            obtain ⟨v6, σ6, H6, S6, r6, q6⟩ := hsp
            exact end_ S6 fun s7 J7 => ⟨_, _, _, J7, r6, q6⟩
        | false =>
          show wpAny _ X.A (handleBy (.ref a) X.env hds2) _ _ _
          exact ih (hno rfl)
    exact go hh w
  · cases f with
    | next =>
      obtain ⟨σ', H', J', q⟩ := hsp
      exact wpAny_execs_nil ⟨σ', H', J'.ofTry ok, q⟩
    | brk =>
      obtain ⟨σ', H', J', q⟩ := hsp
      exact ⟨σ', H', J'.ofTry ok, q⟩
    | cont =>
      obtain ⟨σ', H', J', q⟩ := hsp
      exact ⟨σ', H', J'.ofTry ok, q⟩
    | ret u =>
      obtain ⟨v, σ', H', J', r, q⟩ := hsp
      exact ⟨v, σ', H', J'.ofTry ok, r, q⟩
end
end L2
/-! Rules by data: what a value is (Dp), not where it stands. -/
namespace L2
open PySem PySem.Spec PyProof.Rows
theorem Same.tup {K : PySem.W.Frag} {H H' : Hp} {a : Addr} {xs : List V} (e : Same H H') (h : SqT K H a xs) : SqT K H' a xs := by
  rcases h with (h | ⟨o, h⟩) | h
  · exact .inl (.inl (e _ _ h))
  · exact .inl (.inr ⟨o, e _ _ h⟩)
  · exact .inr h
theorem Same.new {H : Hp} {p : Addr} {o : HO} (n : H p = none) : Same H (upd H p o) := fun b u e => by
  rw [upd_ne (ne_of_none e n)]
  exact e
section
variable {K : PySem.W.Frag} {H H' : Hp}
mutual
theorem Dp.same (s : Same H H') : ∀ (d : PyData) (v : V), Dp K H v d → Dp K H' v d
  | .none, _, h => by cases h; exact .non
  | .bool b, _, h => by cases h; exact .bl b
  | .int i, _, h => by cases h; exact .int i
  | .str x, _, h => by cases h; exact .str x
  | .list ds, _, h => by
    cases h with
    | lst hs ha => exact .lst (s.seq hs) (DpAll.same s ds _ ha)
  | .tuple ds, _, h => by
    cases h with
    | tup hs ha => exact .tup (s.tup hs) (DpAll.same s ds _ ha)
  | .dict _, _, h => by cases h
theorem DpAll.same (s : Same H H') : ∀ (ds : List PyData) (vs : List V), DpAll K H vs ds → DpAll K H' vs ds
  | [], _, h => by cases h; exact .nil
  | d :: ds, _, h => by
    cases h with
    | cons h1 h2 => exact .cons (Dp.same s d _ h1) (DpAll.same s ds _ h2)
end
theorem Dp.mv {v : V} {d : PyData} (h : Dp K H v d) (s : Same H H') : Dp K H' v d := Dp.same s d v h
theorem DpAll.mv {vs : List V} {ds : List PyData} (h : DpAll K H vs ds) (s : Same H H') : DpAll K H' vs ds := DpAll.same s ds vs h
theorem DpAll.length : ∀ {vs : List V} {ds : List PyData}, DpAll K H vs ds → vs.length = ds.length
  | _, [], h => by cases h; rfl
  | _, _ :: _, h => by
    cases h with
    | cons _ t => rw [List.length_cons, List.length_cons, DpAll.length t]
theorem DpAll.get : ∀ {vs : List V} {ds : List PyData} {i : Nat} {d : PyData}, DpAll K H vs ds → ds[i]? = some d → ∃ v, vs[i]? = some v ∧ Dp K H v d
  | _, [], _, _, _, e => by simp at e
  | _, _ :: _, 0, _, h, e => by
    cases h with
    | cons h1 _ =>
      simp at e
      subst e
      exact ⟨_, rfl, h1⟩
  | _, _ :: _, i + 1, _, h, e => by
    cases h with
    | cons _ t =>
      obtain ⟨v, q, r⟩ := DpAll.get (i := i) t (by simpa using e)
      exact ⟨v, by simpa using q, r⟩
theorem DpAll.get' : ∀ {vs : List V} {ds : List PyData} {i : Nat} {v : V}, DpAll K H vs ds → vs[i]? = some v → ∃ d, ds[i]? = some d ∧ Dp K H v d
  | _, [], _, _, h, e => by cases h; simp at e
  | _, _ :: _, 0, _, h, e => by
    cases h with
    | cons h1 _ =>
      simp at e
      subst e
      exact ⟨_, rfl, h1⟩
  | _, _ :: _, i + 1, _, h, e => by
    cases h with
    | cons _ t =>
      obtain ⟨v, q, r⟩ := DpAll.get' (i := i) t (by simpa using e)
      exact ⟨v, by simpa using q, r⟩
theorem DpAll.app : ∀ {vs us : List V} {ds es : List PyData}, DpAll K H vs ds → DpAll K H us es → DpAll K H (vs ++ us) (ds ++ es)
  | _, _, [], _, h, k => by cases h; exact k
  | _, _, _ :: _, _, h, k => by
    cases h with
    | cons h1 t => exact .cons h1 (DpAll.app t k)
theorem DpAll.drop : ∀ {vs : List V} {ds : List PyData} (n : Nat), DpAll K H vs ds → DpAll K H (vs.drop n) (ds.drop n)
  | _, _, 0, h => h
  | _, [], _ + 1, h => by cases h; exact .nil
  | _, _ :: _, n + 1, h => by
    cases h with
    | cons _ t => exact DpAll.drop n t
theorem DpAll.take : ∀ {vs : List V} {ds : List PyData} (n : Nat), DpAll K H vs ds → DpAll K H (vs.take n) (ds.take n)
  | _, _, 0, _ => .nil
  | _, [], _ + 1, h => by cases h; exact .nil
  | _, _ :: _, n + 1, h => by
    cases h with
    | cons h1 t => exact .cons h1 (DpAll.take n t)
theorem DpAll.flat {vs : List V} : ∀ {ds : List PyData}, DpAll K H vs ds → (∀ d ∈ ds, ∃ x, d = .str x) → vs = ds.map (fun d => match d with | .str x => V.str x | _ => V.non) := by
  induction vs with
  | nil => intro ds h _; cases h; rfl
  | cons v vs ih =>
    intro ds h k
    cases h with
    | @cons _ _ d ds h1 t =>
      obtain ⟨x, rfl⟩ := k d List.mem_cons_self
      cases h1
      rw [List.map_cons, ← ih t fun e he => k e (List.mem_cons_of_mem _ he)]
theorem dp_none {v : V} (h : Dp K H v .none) : v = .non := by cases h; rfl
theorem dp_bool {v : V} {b : Bool} (h : Dp K H v (.bool b)) : v = .bl b := by cases h; rfl
theorem dp_int {v : V} {b : Int} (h : Dp K H v (.int b)) : v = .int b := by cases h; rfl
theorem dp_str {v : V} {b : Str} (h : Dp K H v (.str b)) : v = .str b := by cases h; rfl
theorem dp_tup {v : V} {ds : List PyData} (h : Dp K H v (.tuple ds)) : ∃ a xs, v = .ref a ∧ SqT K H a xs ∧ DpAll K H xs ds := by
  cases h with
  | tup hs ha => exact ⟨_, _, rfl, hs, ha⟩
theorem dp_lst {v : V} {ds : List PyData} (h : Dp K H v (.list ds)) : ∃ a xs, v = .ref a ∧ SqL K H a xs ∧ DpAll K H xs ds := by
  cases h with
  | lst hs ha => exact ⟨_, _, rfl, hs, ha⟩
/-- any value with these data, whatever was laid meanwhile -/
def QD (K : PySem.W.Frag) (H : Hp) (r : PyData) (Q : VK) : Prop := ∀ H' v, Same H H' → Dp K H' v r → Q v H'
theorem QD.now {r : PyData} {Q : VK} {v : V} (q : QD K H r Q) (h : Dp K H v r) : Q v H := q H v (Same.refl H) h
theorem QD.mv {r : PyData} {Q : VK} (q : QD K H r Q) (s : Same H H') : QD K H' r Q := fun H2 v s2 h => q H2 v (s.trans s2) h
/-- a new tuple -/
theorem tup_D {xs : List V} {ds : List PyData} {Q : VK} (h : DpAll K H xs ds) (hz : ds.length ≤ 1000) (q : QD K H (.tuple ds) Q) : xs.length ≤ sizeLine ∧ ∀ p, H p = none → Q (.ref p) (upd H p (.tup xs)) := by
  refine ⟨by rw [h.length]; exact Nat.le_of_lt (small1000 hz), fun p hp => ?_⟩
  have s : Same H (upd H p (.tup xs)) := Same.new hp
  exact q _ _ s (.tup (.inl (.inl upd_same)) (h.mv s))
end
/-! ### the rules -/
def tyD : PyData → String
  | .none => "NoneType"
  | .bool _ => "bool"
  | .int _ => "int"
  | .str _ => "str"
  | .list _ => "list"
  | .tuple _ => "tuple"
  | .dict _ => "dict"
/-- isinstance of data against int, bool, str, tuple -/
def isD (n : String) : PyData → Bool
  | .none => false
  | .bool _ => n == "bool" || n == "int"
  | .int _ => n == "int"
  | .str _ => n == "str"
  | .list _ => n == "list"
  | .tuple _ => n == "tuple"
  | .dict _ => false
def rIsD (K : PySem.W.Frag) (n : String) : List V → Hp → VK → Prop := fun xs H Q => ∃ x d, xs = [x, .ty n] ∧ Dp K H x d ∧ Q (.bl (isD n d)) H
theorem tyX_of {K : PySem.W.Frag} {H : Hp} {x : V} {d : PyData} (h : Dp K H x d) : TyX K H x (.type (tyD d)) := by
  cases h with
  | non => exact .base .non
  | bl b => exact .base (.bl b)
  | int i => exact .base (.int i)
  | str x => exact .base (.str x)
  | lst hs ha =>
    rcases hs with (h | ⟨o, h⟩) | ⟨o, its, n, hk, hc, _⟩
    · exact .base (.lst h)
    · exact .base (.frz h)
    · exact .kList hk hc
  | tup hs ha =>
    rcases hs with (h | ⟨o, h⟩) | ⟨o, its, n, hk, hc, _⟩
    · exact .base (.tup h)
    · exact .fTuple h
    · exact .kTuple hk hc
theorem kit_D {K : PySem.W.Frag} {n : String} (hn : n = "int" ∨ n = "bool" ∨ n = "str" ∨ n = "tuple") {v : V} {H : Hp} {d : PyData} (h : Dp K H v d) : PySem.W.kitOne K (.type (tyD d)) (.type n) = some (isD n d) := by
  rcases hn with rfl | rfl | rfl | rfl <;> cases h <;> exact kit_ty (by simp only [tyD, isD]; decide +kernel)
section
variable {X : Cx}
theorem call_isD {n : String} (hn : n = "int" ∨ n = "bool" ∨ n = "str" ∨ n = "tuple") : CallR X (.builtin "isinstance") (rIsD X.K n) := by
  intro pins s σ H xs us Q I r h
  obtain ⟨x, d, rfl, hd, q⟩ := h
  exact call_isi pins s σ H _ us Q I r ⟨x, .ty n, _, .type n, isD n d, rfl, .ty n, tyX_of hd, kit_D hn hd, q⟩
theorem OpR.imp {f : Value → Value → Sem Value} {r r' : R2} (h : OpR X f r) (k : ∀ x y H Q, r' x y H Q → r x y H Q) : OpR X f r' := fun pins s σ H x y v u Q I rx ry q => h pins s σ H x y v u Q I rx ry (k x y H Q q)
theorem IxR.imp {r r' : R2} (h : IxR X r) (k : ∀ x y H Q, r' x y H Q → r x y H Q) : IxR X r' := fun v sl pins s σ H x y vv u Q I rx ry q hs => h v sl pins s σ H x y vv u Q I rx ry (k x y H Q q) hs
theorem CallR.imp {f : Value} {r r' : List V → Hp → VK → Prop} (h : CallR X f r) (k : ∀ xs H Q, r' xs H Q → r xs H Q) : CallR X f r' := fun pins s σ H xs us Q I rx q => h pins s σ H xs us Q I rx (k xs H Q q)
theorem SlR.imp {r r' : V → Option Int → Option Int → Hp → VK → Prop} (h : SlR X r) (k : ∀ x lo hi H Q, r' x lo hi H Q → r x lo hi H Q) : SlR X r' := fun pins s σ H x v vl vu lo hi sl Q I rx hs pl pu q => h pins s σ H x v vl vu lo hi sl Q I rx hs pl pu (k x lo hi H Q q)
theorem op_eqK {K : PySem.W.Frag} (hu : X.A.units + 64 < cLine) (hK : X.K = K := by rfl) : OpR X (compareOp .Eq) (rEqD K) := by
  subst hK
  exact op_eqD hu
theorem op_neK {K : PySem.W.Frag} (hu : X.A.units + 64 < cLine) (hK : X.K = K := by rfl) : OpR X (compareOp .NotEq) (rNeD K) := by
  subst hK
  exact op_neD hu
theorem op_inK {K : PySem.W.Frag} (hK : X.K = K := by rfl) : OpR X (compareOp .In) (rIn K false) := by
  subst hK
  exact op_in_seq
theorem op_niK {K : PySem.W.Frag} (hK : X.K = K := by rfl) : OpR X (compareOp .NotIn) (rIn K true) := by
  subst hK
  exact op_notIn_seq
/-- all of a list of truth values -/
def rAllD (K : PySem.W.Frag) : List V → Hp → VK → Prop := fun vs H Q => ∃ (x : V) (bs : List Bool), vs = [x] ∧ Dp K H x (.list (bs.map .bool)) ∧ Q (.bl (bs.all id)) H
theorem cr_allD {K : PySem.W.Frag} (hc : X.calm = true) (hK : X.K = K := by rfl) : CallR X (.builtin "all") (rAllD K) := CallR.imp (cr_all hc) fun vs H Q h => by
  subst hK
  obtain ⟨x, bs, rfl, hx, q⟩ := h
  obtain ⟨a, xs, rfl, hs, ha⟩ := dp_lst hx
  have e : xs = bs.map V.bl := by
    clear hx q hs
    induction bs generalizing xs with
    | nil => cases ha; rfl
    | cons b bs ih =>
      cases ha with
      | cons h1 h2 =>
        cases h1
        rw [ih _ h2, List.map_cons]
  rw [e] at hs
  exact ⟨a, bs, rfl, hs, q⟩
/-- t[i] -/
def rIxDp (K : PySem.W.Frag) : R2 := fun x y H Q => ∃ (ds : List PyData) (i : Nat) (d : PyData), y = .int i ∧ Dp K H x (.tuple ds) ∧ ds[i]? = some d ∧ ∀ v, Dp K H v d → Q v H
theorem ix_D {K : PySem.W.Frag} (hK : X.K = K := by rfl) : IxR X (rIxDp K) := ix_tup.imp fun x y H Q h => by
  subst hK
  obtain ⟨ds, i, d, rfl, hx, e, q⟩ := h
  obtain ⟨a, xs, rfl, hs, ha⟩ := dp_tup hx
  obtain ⟨v, ev, hv⟩ := ha.get e
  exact ⟨a, xs, i, v, rfl, rfl, hs, atI_nat ev, q v hv⟩
/-- len(t) -/
def rLnD (K : PySem.W.Frag) : List V → Hp → VK → Prop := fun xs H Q => ∃ x ds, xs = [x] ∧ (Dp K H x (.tuple ds) ∨ Dp K H x (.list ds)) ∧ Q (.int ds.length) H
theorem call_lnD {K : PySem.W.Frag} (hK : X.K = K := by rfl) : CallR X (.builtin "len") (rLnD K) := call_len_seq.imp fun xs H Q h => by
  subst hK
  obtain ⟨x, ds, rfl, hx | hx, q⟩ := h
  · obtain ⟨a, ys, rfl, hs, ha⟩ := dp_tup hx
    exact ⟨a, ys, rfl, .inr hs, by rw [ha.length]; exact q⟩
  · obtain ⟨a, ys, rfl, hs, ha⟩ := dp_lst hx
    exact ⟨a, ys, rfl, .inl hs, by rw [ha.length]; exact q⟩
/-- t + u -/
def rCtD (K : PySem.W.Frag) : R2 := fun x y H Q => ∃ ds es, Dp K H x (.tuple ds) ∧ Dp K H y (.tuple es) ∧ ds.length + es.length ≤ 1000 ∧ QD K H (.tuple (ds ++ es)) Q
theorem op_catD {K : PySem.W.Frag} (hK : X.K = K := by rfl) : OpR X (binaryOp .Add) (rCtD K) := op_catA.imp fun x y H Q h => by
  subst hK
  obtain ⟨ds, es, hx, hy, hz, q⟩ := h
  obtain ⟨a, xs, rfl, hs, ha⟩ := dp_tup hx
  obtain ⟨b, ys, rfl, hs', hb⟩ := dp_tup hy
  refine ⟨a, b, xs, ys, rfl, rfl, hs, hs', by rw [ha.length, hb.length]; exact Nat.le_of_lt (small1000 hz), fun e => ?_, fun _ e => ?_, fun _ _ p hp => ?_⟩
  · subst e
    cases ha
    exact q.now hy
  · subst e
    cases hb
    rw [List.append_nil] at q
    exact q.now hx
  · have s : Same H (upd H p (.tup (xs ++ ys))) := Same.new hp
    exact q _ _ s (.tup (.inl (.inl upd_same)) ((ha.app hb).mv s))
/-- the items from lo up to hi -/
def cutD (ds : List PyData) (lo hi : Option Int) : List PyData := (ds.drop (HT.sIx ds.length 0 lo)).take (HT.sIx ds.length ds.length hi - HT.sIx ds.length 0 lo)
/-- t[lo:hi] -/
def rSlD (K : PySem.W.Frag) : V → Option Int → Option Int → Hp → VK → Prop := fun x lo hi H Q => ∃ ds, Dp K H x (.tuple ds) ∧ QD K H (.tuple (cutD ds lo hi)) Q
theorem sl_D {K : PySem.W.Frag} (hK : X.K = K := by rfl) : SlR X (rSlD K) := sl_tupA.imp fun x lo hi H Q h => by
  subst hK
  obtain ⟨ds, hx, q⟩ := h
  obtain ⟨a, xs, rfl, hs, ha⟩ := dp_tup hx
  have hl := ha.length
  have hc : DpAll X.K H (cutV xs lo hi) (cutD ds lo hi) := by
    unfold cutV cutD
    rw [hl]
    exact (ha.drop _).take _
  refine ⟨a, xs, rfl, hs, fun e => ?_, fun _ p hp => ?_⟩
  · have e1 : cutV xs lo hi = xs := by
      unfold cutV
      rw [e.1, e.2, List.drop_zero, Nat.sub_zero, List.take_length]
    rw [e1] at hc
    exact q.now (.tup hs hc)
  · have s : Same H (upd H p (.tup (cutV xs lo hi))) := Same.new hp
    exact q _ _ s (.tup (.inl (.inl upd_same)) (hc.mv s))
end
end L2
namespace L2
open PySem PySem.Spec PyProof.Rows
section
variable {X : Cx}
/-- a module's text, int as a value -/
theorem pe_gstr {x z : Str} {pos : Pos} (h : ∃ t, X.mg x = some (.str z t)) (hg : Gl X x := by rfl) (hd : (x == ("__debug__" : Str)) = false := by decide) : PE X (.Name x pos) (tC (.str z)) := by
  obtain ⟨t, h⟩ := h
  exact pe_glob hg h ⟨t, rfl⟩ hd
theorem pe_gint {x : Str} {z : Int} {pos : Pos} (h : ∃ t, X.mg x = some (.int z t)) (hg : Gl X x := by rfl) (hd : (x == ("__debug__" : Str)) = false := by decide) : PE X (.Name x pos) (tC (.int z)) := by
  obtain ⟨t, h⟩ := h
  exact pe_glob hg h ⟨t, rfl⟩ hd
theorem pe_gref {x : Str} {a : Addr} {pos : Pos} (h : X.mg x = some (.ref a)) (hg : Gl X x := by rfl) (hd : (x == ("__debug__" : Str)) = false := by decide) : PE X (.Name x pos) (tC (.ref a)) := pe_glob hg h rfl hd
/-- isinstance(e, T) -/
theorem pe_isD {K : PySem.W.Frag} {e : Expr} {te : TE} {T : Str} {S : String} {p p2 pos : Pos} (hn : S = "int" ∨ S = "bool" ∨ S = "str" ∨ S = "tuple") (fi : X.mg "isinstance" = none) (fT : X.mg T = none) (he : PE X e te) (hb : bootBuiltins T = some (.type S)) (hg1 : Gl X "isinstance" := by rfl) (hg2 : Gl X T := by rfl)
    (hs : starEach (e :: [.Name T p2]) X.env = (false, eval e X.env) :: starEach [.Name T p2] X.env := by rfl) (hs2 : starEach (.Name T p2 :: []) X.env = (false, eval (.Name T p2) X.env) :: starEach [] X.env := by rfl) (hp : (backTo pos (starEach [.Name T p2] X.env)).any (·.1) = false := by rfl)
    (h1 : T ≠ "__name__" := by decide) (h2 : (T == ("__debug__" : Str)) = false := by decide) (hK : X.K = K := by rfl) :
    PE X (.Call (.Name "isinstance" p) [e, .Name T p2] [] pos) (tCB (rIsD K S) (tCons te (tCons (tC (.ty S)) tNil))) := by
  subst hK
  exact pe_callB (call_isD hn) hg1 fi PyProof.Rows.boot_isinstance (pa_cons he (pa_cons (pe_bltn hg2 fT hb rfl h1 h2) pa_nil hs2) hs) (he := hs) (hpl := hp)
end
/-- a def by its name, with what it promises -/
def Has (P : Program) (w : World) (K : PySem.W.Frag) (mg : Str → Option Value) (base : Heap) (k : Nat) (x : Str) (ps : List Str) (sp : Sp) : Prop :=
  ∃ f fd, mg x = some (.ref f) ∧ PySem.W.keepIn K (.ref f) = true ∧ Binds K fd ps [] ∧ FnOk P w K mg base (L2.CX P w) k f fd ps sp
theorem Has.mono {P : Program} {w : World} {K : PySem.W.Frag} {mg : Str → Option Value} {base : Heap} {k j : Nat} {x : Str} {ps : List Str} {sp : Sp} (h : Has P w K mg base k x ps sp) (hj : k ≤ j) : Has P w K mg base j x ps sp := by
  obtain ⟨f, fd, a, b, c, d⟩ := h
  exact ⟨f, fd, a, b, c, d.mono hj⟩
section
variable {X : Cx} {x : Str} {k : Nat} {ps : List Str} {sp : Sp} {E : XK} {e : Expr} {es : List Expr} {t : TA} {p pos : Pos}
theorem pe_callQ (h : Has X.prog X.w X.K X.mg X.base k x ps sp) (hr : Room k X.A) (hx : Passes (L2.CX X.prog X.w) X E) (ha : PA X (e :: es) t) (hg : Gl X x := by rfl) (hd : (x == ("__debug__" : Str)) = false := by decide)
    (hs : starEach (e :: es) X.env = (false, eval e X.env) :: starEach es X.env := by rfl) (hp : (backTo pos (starEach es X.env)).any (·.1) = false := by rfl) :
    PE X (.Call (.Name x p) (e :: es) [] pos) (tCall sp [] E t) := by
  obtain ⟨f, fd, a, b, c, d⟩ := h
  exact pe_call d hr hg a b c .nil hx ha hd hs hp
theorem pe_callQ0 (h : Has X.prog X.w X.K X.mg X.base k x ps sp) (hr : Room k X.A) (hx : Passes (L2.CX X.prog X.w) X E) (hg : Gl X x := by rfl) (hd : (x == ("__debug__" : Str)) = false := by decide) :
    PE X (.Call (.Name x p) [] [] pos) (tCall sp [] E tNil) := by
  obtain ⟨f, fd, a, b, c, d⟩ := h
  exact pe_call0 d hr hg a b c .nil hx hd
end
section
variable {P : Program} {w : World} {K : PySem.W.Frag} {mg : Str → Option Value} {base : Heap}
theorem pasX {N : List Str} {q : Str} {sc : Scope} {f : Addr} {cd : Value} {A : Around} {outer : List Env} {s : Shared} {H : Hp} {E : XK} : Passes (L2.CX P w) (cxOf (L2.CX P w) P w K mg base N q sc f cd A outer s H E) E :=
  passes_call (X := cxOf (L2.CX P w) P w K mg base N q sc f cd A outer s H E) (W := fun cls d _ H => E cls d H) (takes_of rfl rfl rfl rfl) fun _ _ _ _ h => h
/-- a def of the text by its name -/
structure Def (K : PySem.W.Frag) (mg : Str → Option Value) (x : Str) (st : Stmt) : Prop where
  ex : ∃ f fd, mg x = some (.ref f) ∧ Fun K x x st f fd
theorem Def.has {x : Str} {st : Stmt} {N ps : List Str} {k : Nat} {sp : Sp} (D : Def K mg x st) (S : FnScope N ps (defScope st))
    (hb : ∀ (kV doc pm : Value) (an : Option Addr) (cdv ct : Value) (us : List Value), us.length = ps.length → bindArgs (PySem.W.fnOf x x (defArgs st) (defBody st) (defScope st) .none kV doc pm an cdv ct) ⟨us, []⟩ = pure (ps.zip us))
    (len : ∀ vs H Q E, sp vs H Q E → vs.length = ps.length)
    (hbody : ∀ (f : Addr) (cdv : Value) (A : Around) (outer : List Env) (s : Shared) (H : Hp) (vs : List V) (Q : VK) (E : XK), Room k (A.deeper (envOfC x (defScope st) s.heap.objs.size f cdv)) → sp vs H Q E →
      ∃ t, PSs (cxOf (L2.CX P w) P w K mg base N x (defScope st) f cdv A outer s H E) (defBody st) t ∧ t { nx := fun _ H' => Q .non H', rt := Q } (start N vs) H) : Has P w K mg base (k + 1) x ps sp := by
  obtain ⟨f, fd, hm, F⟩ := D.ex
  exact ⟨f, fd, hm, F.kp, F.binds hb, F.okX S len (hbody f)⟩
end
/-- what a def does of data: Ok r, or an error of a class with its what -/
inductive Rz where
  | ok (r : PyData)
  | er (c : Str) (what : PyData)
/-- the end of a call that answers z -/
def EndD (K : PySem.W.Frag) (H : Hp) (Q : VK) (E : XK) : Rz → Prop
  | .ok r => QD K H r Q
  | .er c what => ∀ H' v dx, Same H H' → Dp K H' v what → H' dx = some (.xd [(("what" : Str), v)]) → E (.ref (He.ga K c)) (some dx) H'
/-- a def of n data that answers f -/
def spD (K : PySem.W.Frag) (n : Nat) (pre : List PyData → Prop) (f : List PyData → Rz) : Sp := fun vs H Q E => ∃ ds, ds.length = n ∧ DpAll K H vs ds ∧ pre ds ∧ EndD K H Q E (f ds)
theorem spD_len {K : PySem.W.Frag} {n : Nat} {pre : List PyData → Prop} {f : List PyData → Rz} : ∀ vs H Q E, spD K n pre f vs H Q E → vs.length = n := fun vs H Q E h => by
  obtain ⟨ds, rfl, h, _⟩ := h
  exact h.length
theorem EndD.mv {K : PySem.W.Frag} {H H' : Hp} {Q : VK} {E : XK} {z : Rz} (h : EndD K H Q E z) (s : Same H H') : EndD K H' Q E z := by
  cases z with
  | ok r => exact QD.mv h s
  | er c what => exact fun H2 v dx s2 a b => h H2 v dx (s.trans s2) a b
end L2
/-! a tuple, some thousand times -/
namespace L2
open PySem PySem.Spec PyProof.Rows
/-- t * k by data -/
def rRepD (K : PySem.W.Frag) : R2 := fun x y H Q => ∃ ds k, y = .int k ∧ Dp K H x (.tuple ds) ∧ ds ≠ [] ∧ 2 ≤ k ∧ k ≤ 4000 ∧ ds.length ≤ 100 ∧ QD K H (.tuple (List.replicate k.toNat ds).flatten) Q
section
variable {X : Cx}
theorem DpAll.rep {K : PySem.W.Frag} {H : Hp} {xs : List V} {ds : List PyData} (h : DpAll K H xs ds) : ∀ m, DpAll K H (List.replicate m xs).flatten (List.replicate m ds).flatten
  | 0 => .nil
  | m + 1 => by
    rw [List.replicate_succ, List.flatten_cons, List.replicate_succ, List.flatten_cons]
    exact h.app (DpAll.rep h m)
theorem op_repL : OpR X (binaryOp .Mult) (fun x y H Q => ∃ l k xs, x = .ref l ∧ y = .int k ∧ SqT X.K H l xs ∧ xs ≠ [] ∧ 2 ≤ k ∧ k ≤ 4000 ∧ xs.length ≤ 100 ∧ ∀ p, H p = none → Q (.ref p) (upd H p (.tup (List.replicate k.toNat xs).flatten))) := by
  intro pins s σ H x y v u Q I rx ry h
  obtain ⟨l, k, xs, rfl, rfl, hT, hne, h1, h2, hz, q⟩ := h
  cases rx
  obtain ⟨t, rfl⟩ := ry
  obtain ⟨its, r, ⟨⟨cls, dd, data, sl⟩, ho, hc, n, hd⟩, hs⟩ := I.tuple hT
  simp only at hc hd
  subst hc hd
  have hle : its.length = xs.length := r.length.symm
  have hn : its ≠ [] := fun e => hne (List.eq_nil_of_length_eq_zero (by rw [← hle, e]; rfl))
  have hi : its.toArray.isEmpty = false := by
    cases its with
    | nil => exact absurd rfl hn
    | cons a b => rfl
  have hsz0 : its.toArray.size = xs.length := by rw [List.size_toArray, hle]
  have hm : ((its.toArray.size : Nat) : Int) * k ≤ 400000 := by
    rw [hsz0]
    have a1 : ((xs.length : Nat) : Int) * k ≤ 100 * k := Int.mul_le_mul_of_nonneg_right (by omega) (by omega)
    omega
  have a2 : k.toNat * xs.length ≤ 4000 * 100 := Nat.mul_le_mul (by omega) hz
  have flen : (List.replicate k.toNat its).flatten.length ≤ sizeLine := by
    rw [PyProof.Rows.lm_len_rep_flat, hle, sizeLine_eq]
    omega
  have c0 : (decide (k < -(2 ^ 63)) || decide (k ≥ 2 ^ 63)) = false := by
    rw [decide_eq_false (by omega), decide_eq_false (by omega)] <;> rfl
  have c1 : (its.toArray.isEmpty || k == 1) = false := by
    rw [hi, Bool.false_or]
    exact beq_eq_false_iff_ne.mpr (by omega)
  have c2 : (decide (k ≤ 0) || its.toArray.isEmpty) = false := by
    rw [hi, Bool.or_false]
    exact decide_eq_false (by omega)
  have c4 : Builtin.Tuple.tupleTooMany (((its.toArray.size : Nat) : Int) * k) = false := by
    unfold Builtin.Tuple.tupleTooMany
    rw [sizeLine_eq]
    exact decide_eq_false (by omega)
  refine wpAny_binaryOp_repeat_ref (T := "tuple") (U := "int") (by decide) ⟨_, ho, rfl⟩ (fun s' => typeIs_int s' k t) noFill_tuple_mul F.fills_int_mul F.slot_int_rmul repeat_tuple F.slot_int_index.lookup
    (call_meets F.slot_int_rmul (typeIs_int s k t) F.entry_int_rmul (F.args_int_rmul_2 _ _) (int_rmul_tuple k t l its.toArray n dd sl)
      ⟨ho, rfl, ⟨_, ho, rfl⟩, call_meets F.slot_tuple_mul ⟨_, ho, rfl⟩ F.entry_tuple_mul (F.args_tuple_mul_2 _ _) (tuple_mulW l its.toArray n dd sl k t c0 c1 c2 (by omega) c4 (by rw [size_rep, List.size_toArray]; exact flen)) ⟨ho, ?_⟩⟩)
  rw [size_rep]
  refine ⟨.ref s.heap.objs.size, _, I.laid (t' := s.toks) (o := .tup (List.replicate k.toNat xs).flatten) (fun b ob q => Heap.get?_push_of_some _ q) (Nat.le_refl _) ?_, rfl, q _ (I.hok.fresh (Nat.le_refl _))⟩
  exact ⟨by rw [PyProof.Rows.lm_len_rep_flat, sizeLine_eq]; omega, _, r.rep k.toNat, IsTup.new _ _⟩
theorem op_repD {K : PySem.W.Frag} (hK : X.K = K := by rfl) : OpR X (binaryOp .Mult) (rRepD K) := op_repL.imp fun x y H Q h => by
  subst hK
  obtain ⟨ds, k, rfl, hd, hne, h1, h2, hz, q⟩ := h
  obtain ⟨a, xs, rfl, hs, ha⟩ := dp_tup hd
  refine ⟨a, k, xs, rfl, rfl, hs, fun e => hne (by subst e; cases ha; rfl), h1, h2, by rw [ha.length]; exact hz, fun p hp => ?_⟩
  have s : Same H (upd H p (.tup (List.replicate k.toNat xs).flatten)) := Same.new hp
  exact q _ _ s (.tup (.inl (.inl upd_same)) ((ha.rep _).mv s))
end
end L2
namespace L2
open PySem PySem.Spec PyProof.Rows
section
variable {X : Cx} {pos : Pos}
/-- a, b, c = x, y, z with plain local names -/
def tPar3 (i j k : Nat) (ta : TA) : TS := fun D σ H => ta σ H fun vs H1 => ∃ u v w, vs = [u, v, w] ∧ D.nx (((σ.set i (some u)).set j (some v)).set k (some w)) H1
theorem ps_par3 {i j k : Nat} {x y z : Str} {a b c : Expr} {ta : TA} {px py pz pt : Pos} {kt k2 pt2} (hc : X.calm = true) (hN : X.N.Nodup) (hi : X.N[i]? = some x) (hj : X.N[j]? = some y) (hk : X.N[k]? = some z) (hij : i ≠ j) (hik : i ≠ k) (hjk : j ≠ k)
    (hx : X.env.scope.names.lookup x = some .local) (hy : X.env.scope.names.lookup y = some .local) (hz : X.env.scope.names.lookup z = some .local) (ha : PA X [a, b, c] ta)
    (hw : swappedStores [.Tuple [.Name x px, .Name y py, .Name z pz] kt pt] (.Tuple [a, b, c] k2 pt2) X.env = pure (some [x, y, z]))
    (hs : swapsWithSole [.Tuple [.Name x px, .Name y py, .Name z pz] kt pt] (.Tuple [a, b, c] k2 pt2) pos.line X.env = pure false := by rfl) :
    PS X (.Assign [.Tuple [.Name x px, .Name y py, .Name z pz] kt pt] (.Tuple [a, b, c] k2 pt2) pos) (tPar3 i j k ta) := by
  refine ⟨fun pins s σ H D I h => ?_⟩
  rw [exec_Assign_arm]
  refine wpAny_bind (wpAny_standAt ?_)
  rw [hs]
  refine wpAny_bind (wpAny_pure ?_)
  rw [if_neg (by decide)]
  refine wpAny_bind (Tuple_ (thn (ha.run _ pins s σ H _ I h) fun us s1 ⟨vs, H1, I1, r1, q1⟩ => ?_))
  obtain ⟨u, v, w, e1, q1⟩ := q1
  subst e1
  obtain ⟨u1, u2, u3, rfl, ru, rv, rw'⟩ : ∃ u1 u2 u3, us = [u1, u2, u3] ∧ RelV u u1 ∧ RelV v u2 ∧ RelV w u3 := by
    cases r1 with
    | cons p q =>
      cases q with
      | cons p' q' =>
        cases q' with
        | cons p'' q'' =>
          cases q''
          exact ⟨_, _, _, rfl, p, p', p''⟩
  refine wpAny_newObj_type ?_ (by show 3 ≤ sizeLine; decide)
  have I2 : Inv X pins σ H1 { s1 with heap := s1.heap.push { cls := .type "tuple", data := .seq [u1, u2, u3].toArray } } := I1.kept (t' := s1.toks) fun b o e => Heap.get?_push_of_some _ e
  rw [hw]
  refine wpAny_bind (wpAny_pure ?_)
  show wpAny (model X.prog X.w) X.A (do rule "assign.swapped-stores"; let items ← unpackItems (.ref s1.heap.objs.size) 3 none; assignInOrder [fun v => bindName X.env z v, fun v => bindName X.env y v, fun v => bindName X.env x v] items.reverse; pure Flow.next) _ _ _
  refine wpAny_bind (wpAny_rule (wpAny_bind (unpackItems_tuple (items := #[u1, u2, u3]) (I.ok.hd hc) (IsTup.new s1.heap _) fun h' hx' => ?_)))
  have I3 := I2.kept (h' := h') (t' := s1.toks) fun b o e => hx' b o (Nat.ne_of_lt (Heap.lt_size e)) e
  show wpAny _ _ (assignInOrder [fun v => bindName X.env z v, fun v => bindName X.env y v, fun v => bindName X.env x v] [u3, u2, u1] >>= fun _ => pure Flow.next) _ _ _
  refine wpAny_bind (assignInOrder_cons (wpAny_bindName (store_ok I3 hN hk (.inl hz) rw' (fun s2 I4 => ?_) (.inr hz))))
  refine assignInOrder_cons (wpAny_bindName (store_ok I4 hN hj (.inl hy) rv (fun s3 I5 => ?_) (.inr hy)))
  refine assignInOrder_cons (wpAny_bindName (store_ok I5 hN hi (.inl hx) ru (fun s4 I6 => assignInOrder_nil (wpAny_pure ?_)) (.inr hx)))
  have e : ((σ.set k (some w)).set j (some v)).set i (some u) = ((σ.set i (some u)).set j (some v)).set k (some w) := by
    rw [List.set_comm _ _ (Ne.symm hij), List.set_comm _ _ (Ne.symm hik), List.set_comm _ _ (Ne.symm hjk)]
  rw [e] at I6
  exact ⟨_, H1, I6, q1⟩
end
end L2
/-! Comprehensions by data. -/
namespace L2
open PySem PySem.Spec PyProof.Rows
/-! ### data without lists -/
mutual
def noL : PyData → Bool
  | .list _ => false
  | .tuple ds => noLs ds
  | _ => true
def noLs : List PyData → Bool
  | [] => true
  | d :: ds => noL d && noLs ds
end
theorem noLs_all : ∀ {ds : List PyData}, noLs ds = true ↔ ∀ d ∈ ds, noL d = true
  | [] => by simp [noLs]
  | d :: ds => by
    rw [noLs, Bool.and_eq_true, noLs_all (ds := ds)]
    simp
section
variable {K : PySem.W.Frag} {H : Hp} {D : Addr} {ys zs : List V}
theorem SqT.upd {a : Addr} {xs : List V} (e : H D = some (.lst ys)) (h : SqT K H a xs) : SqT K (upd H D (.lst zs)) a xs := by
  have ne : ∀ u, (∀ q, u ≠ HO.lst q) → H a = some u → a ≠ D := fun u nu q z => by
    rw [z, e] at q
    exact nu ys (Option.some.inj q).symm
  rcases h with (h | ⟨o, h⟩) | h
  · exact .inl (.inl (by rw [upd_ne (ne _ (fun q z => by cases z) h)]; exact h))
  · exact .inl (.inr ⟨o, by rw [upd_ne (ne _ (fun q z => by cases z) h)]; exact h⟩)
  · exact .inr h
mutual
theorem Dp.updl (e : H D = some (.lst ys)) : ∀ (d : PyData) (v : V), noL d = true → Dp K H v d → Dp K (upd H D (.lst zs)) v d
  | .none, _, _, h => by cases h; exact .non
  | .bool b, _, _, h => by cases h; exact .bl b
  | .int i, _, _, h => by cases h; exact .int i
  | .str x, _, _, h => by cases h; exact .str x
  | .list ds, _, n, h => by simp [noL] at n
  | .tuple ds, _, n, h => by
    cases h with
    | tup hs ha => exact .tup (SqT.upd e hs) (DpAll.updl e ds _ (by simpa [noL] using n) ha)
  | .dict _, _, _, h => by cases h
theorem DpAll.updl (e : H D = some (.lst ys)) : ∀ (ds : List PyData) (vs : List V), noLs ds = true → DpAll K H vs ds → DpAll K (upd H D (.lst zs)) vs ds
  | [], _, _, h => by cases h; exact .nil
  | d :: ds, _, n, h => by
    rw [noLs, Bool.and_eq_true] at n
    cases h with
    | cons h1 h2 => exact .cons (Dp.updl e d _ n.1 h1) (DpAll.updl e ds _ n.2 h2)
end
end
theorem Same.updn {H0 H : Hp} {D : Addr} {o : HO} (s : Same H0 H) (n : H0 D = none) : Same H0 (upd H D o) := fun b u e => by
  rw [upd_ne (ne_of_none e n)]
  exact s b u e
theorem range_map_succ {α : Type} (f : Nat → α) (i : Nat) : (List.range (i + 1)).map f = (List.range i).map f ++ [f i] := by
  rw [List.range_succ, List.map_append]
  rfl
/-- a comprehension without a test: the list of f's data -/
theorem lcD {K : PySem.W.Frag} {J : It} {n : Nat} {G : Hp → Prop} {Y : Nat → Hp → V → Hp → Prop} (w : Walk J n G Y) {g : TG} {te : TE} {vs : List Nat} {σ : St} {H1 : Hp} {D : Addr} {Qd : Hp → Prop} (f : Nat → PyData)
    (hn : n ≤ 1000) (hD : H1 D = none) (nl : ∀ i, i < n → noL (f i) = true) (hG : ∀ H', Same H1 H' → G H')
    (hs : ∀ i x H H' (C : VK), i < n → Same H1 H → Y i H x H' → (∀ y H4, Same H H4 → Dp K H4 y (f i) → C y H4) → g x (wipe σ vs) H' fun σ2 H2 => wipe σ2 vs = wipe σ vs ∧ te σ2 H2 C)
    (hd : ∀ H', Same H1 H' → Dp K H' (.ref D) (.list ((List.range n).map f)) → Qd H') :
    ∃ W : Nat → Nat → Hp → Prop, (∃ m, W 0 m (upd H1 D (.lst []))) ∧ ∀ i m H, W i m H →
      (J.stop i H ∧ Qd H) ∨ (J.go i H ∧ ∃ Nx : Hp → Prop, (∀ H', Nx H' → ∃ m', m' < m ∧ W (i + 1) m' H') ∧ ∀ x H', J.yld i H x H' → g x (wipe σ vs) H' fun σ2 H2 => wipe σ2 vs = wipe σ vs ∧ tYes σ2 H2 fun b H3 =>
        if b = true then te σ2 H3 fun y H4 => ∃ acc, H4 D = some (.lst acc) ∧ acc.length < sizeLine ∧ Nx (upd H4 D (.lst (acc ++ [y]))) else Nx H3) := by
  refine lc_it w (tt := tYes) (fun i H => i ≤ n ∧ Same H1 H ∧ ∃ acc, H D = some (.lst acc) ∧ DpAll K H acc ((List.range i).map f)) ⟨Nat.zero_le _, Same.new hD, [], upd_same, .nil⟩ (fun i H _ p => hG H p.2.1) ?_ ?_
  · rintro i x H H' hi ⟨_, s, acc, ha, hp⟩ y
    refine hs i x H H' _ hi s y fun z H4 s4 hz => ?_
    have ha4 : H4 D = some (.lst acc) := s4 _ _ ha
    have hp4 : DpAll K H4 acc ((List.range i).map f) := hp.mv s4
    have nls : noLs ((List.range i).map f) = true := noLs_all.mpr fun d hd => by
      obtain ⟨j, hj, rfl⟩ := List.mem_map.mp hd
      have := List.mem_range.mp hj
      exact nl j (by omega)
    refine ⟨acc, ha4, ?_, hi, (s.trans s4).updn hD, _, upd_same, ?_⟩
    · rw [hp.length, List.length_map, List.length_range]
      exact small1000 (by omega)
    · rw [range_map_succ]
      exact (DpAll.updl ha4 _ _ nls hp4).app (.cons (Dp.updl ha4 _ _ (nl i hi) hz) .nil)
  · rintro H ⟨_, s, acc, ha, hp⟩
    exact hd H s (.lst (.inl (.inl ha)) hp)
theorem range_get {ds : List PyData} (g : PyData → PyData) : (List.range ds.length).map (fun i => g (ds.getD i .none)) = ds.map g := by
  apply List.ext_getElem
  · simp
  · intro i h1 h2
    simp at h1
    simp [List.getD_eq_getElem?_getD, h1]
/-! ### displays -/
def mkT (xs : List V) (H : Hp) (Q : VK) : Prop := xs.length ≤ sizeLine ∧ ∀ p, H p = none → Q (.ref p) (upd H p (.tup xs))
def mkL (xs : List V) (H : Hp) (Q : VK) : Prop := xs.length ≤ sizeLine ∧ ∀ p, H p = none → Q (.ref p) (upd H p (.lst xs))
theorem tTup_eq {t : TA} {σ : St} {H : Hp} {Q : VK} : tTup t σ H Q = t σ H fun xs H1 => mkT xs H1 Q := rfl
theorem tLst_eq {t : TA} {σ : St} {H : Hp} {Q : VK} : tLst t σ H Q = t σ H fun xs H1 => mkL xs H1 Q := rfl
theorem mkT_D {K : PySem.W.Frag} {xs : List V} {ds : List PyData} {H : Hp} {Q : VK} (h : DpAll K H xs ds) (hz : ds.length ≤ 1000) (q : QD K H (.tuple ds) Q) : mkT xs H Q := tup_D h hz q
theorem mkL_D {K : PySem.W.Frag} {xs : List V} {ds : List PyData} {H : Hp} {Q : VK} (h : DpAll K H xs ds) (hz : ds.length ≤ 1000) (q : ∀ p, H p = none → Dp K (upd H p (.lst xs)) (.ref p) (.list ds) → Q (.ref p) (upd H p (.lst xs))) : mkL xs H Q := by
  refine ⟨by rw [h.length]; exact Nat.le_of_lt (small1000 hz), fun p hp => q p hp (.lst (.inl (.inl upd_same)) (h.mv (Same.new hp)))⟩
theorem rEq_str {a b : Str} {H : Hp} {Q : VK} : rEq (.str a) (.str b) H Q = Q (.bl (decide (a = b))) H := by
  unfold rEq
  simp [scal]
theorem rEq_int {a b : Int} {H : Hp} {Q : VK} : rEq (.int a) (.int b) H Q = Q (.bl (decide (a = b))) H := by
  unfold rEq
  simp [scal]
theorem rEq_bl {a b : Bool} {H : Hp} {Q : VK} : rEq (.bl a) (.bl b) H Q = Q (.bl (decide (a = b))) H := by
  unfold rEq
  simp [scal]
theorem rI0_int {g : Int → Int → V} {a b : Int} {H : Hp} {Q : VK} : rI0 g (.int a) (.int b) H Q = Q (g a b) H := by
  unfold rI0
  apply propext
  constructor
  · rintro ⟨i, j, h1, h2, q⟩
    cases h1
    cases h2
    exact q
  · intro q
    exact ⟨a, b, rfl, rfl, q⟩
theorem rNe_str {a b : Str} {H : Hp} {Q : VK} : rNe (.str a) (.str b) H Q = Q (.bl (!decide (a = b))) H := by
  unfold rNe
  simp [scal]
theorem rNe_int {a b : Int} {H : Hp} {Q : VK} : rNe (.int a) (.int b) H Q = Q (.bl (!decide (a = b))) H := by
  unfold rNe
  simp [scal]
theorem qb {K : PySem.W.Frag} {H : Hp} {b : Bool} {Q : VK} (q : QD K H (.bool b) Q) {H' : Hp} (s : Same H H') : Q (.bl b) H' := q H' _ s (.bl b)
theorem eqv_nil (ds : List PyData) : PyData.eqv (.tuple ds) (.tuple []) = ds.isEmpty := by
  cases ds <;> rfl
/-! ### what may be compared -/
mutual
def wide : PyData → Bool
  | .tuple ds => decide (ds.length ≤ 1000) && wides ds
  | .list ds => decide (ds.length ≤ 1000) && wides ds
  | .dict _ => false
  | _ => true
def wides : List PyData → Bool
  | [] => true
  | d :: ds => wide d && wides ds
end
def okD (d : PyData) : Prop := SeqAt.shaped d = true ∧ wide d = true
theorem wides_all : ∀ {ds : List PyData}, wides ds = true ↔ ∀ d ∈ ds, wide d = true
  | [] => by simp [wides]
  | d :: ds => by
    rw [wides, Bool.and_eq_true, wides_all (ds := ds)]
    simp
theorem lays_all : ∀ {ds : List PyData}, PyData.canLayAll0 ds = true ↔ ∀ d ∈ ds, PyData.canLay0 d = true
  | [] => by simp [PyData.canLayAll0]
  | d :: ds => by
    rw [PyData.canLayAll0, Bool.and_eq_true, lays_all (ds := ds)]
    simp
theorem depths_all : ∀ {ds : List PyData} {n : Nat}, PyData.depthAll ds ≤ n ↔ ∀ d ∈ ds, PyData.depth d ≤ n
  | [], n => by simp [PyData.depthAll]
  | d :: ds, n => by
    rw [PyData.depthAll, Nat.max_le, depths_all (ds := ds)]
    simp
theorem okD_mem {ds : List PyData} {d : PyData} (h : okD (.tuple ds)) (hd : d ∈ ds) : okD d := by
  obtain ⟨h1, h2⟩ := h
  unfold SeqAt.shaped at h1
  rw [Bool.and_eq_true, decide_eq_true_eq] at h1
  rw [wide, Bool.and_eq_true, decide_eq_true_eq] at h2
  obtain ⟨c, dp⟩ := h1
  rw [PyData.canLay0] at c
  rw [PyData.depth] at dp
  refine ⟨?_, wides_all.mp h2.2 d hd⟩
  unfold SeqAt.shaped
  rw [Bool.and_eq_true, decide_eq_true_eq]
  exact ⟨lays_all.mp c d hd, by have := depths_all.mp (Nat.le_refl (PyData.depthAll ds)) d hd; omega⟩
theorem okD_len {ds : List PyData} (h : okD (.tuple ds)) : ds.length ≤ 1000 := by
  have h2 := h.2
  rw [wide, Bool.and_eq_true, decide_eq_true_eq] at h2
  exact h2.1
theorem okD_sub {ds es : List PyData} (h : okD (.tuple ds)) (hl : es.length ≤ 1000) (hs : ∀ d ∈ es, d ∈ ds) : okD (.tuple es) := by
  have hm : ∀ d ∈ es, okD d := fun d hd => okD_mem h (hs d hd)
  obtain ⟨h1, h2⟩ := h
  unfold SeqAt.shaped at h1
  rw [Bool.and_eq_true, decide_eq_true_eq, PyData.depth] at h1
  constructor
  · unfold SeqAt.shaped
    rw [Bool.and_eq_true, decide_eq_true_eq, PyData.canLay0, PyData.depth]
    refine ⟨lays_all.mpr fun d hd => ?_, ?_⟩
    · have := (hm d hd).1
      unfold SeqAt.shaped at this
      exact (Bool.and_eq_true_iff.mp this).1
    · have : PyData.depthAll es ≤ PyData.depthAll ds := depths_all.mpr fun d hd => depths_all.mp (Nat.le_refl _) d (hs d hd)
      omega
  · rw [wide, Bool.and_eq_true, decide_eq_true_eq]
    exact ⟨hl, wides_all.mpr fun d hd => (hm d hd).2⟩
end L2
namespace An
open PySem PySem.Spec PyProof.Rows L2
def top (i : Nat) : Stmt := PySem.Challenge.pw_anytwo_k65_which_of_two_wrong_things_is.main.body.getD i (.Pass ⟨0, 0, 0, 0⟩)
abbrev s_is_number : Stmt := (top 21)
abbrev N_is_number : List Str := ["thing"]
theorem sc_is_number : FnScope N_is_number ["thing"] (defScope s_is_number) := ⟨rfl, rfl, rfl, by decide +kernel, rfl, by decide +kernel, by decide +kernel⟩
abbrev s_is_of : Stmt := (top 22)
abbrev N_is_of : List Str := ["thing", "some"]
theorem sc_is_of : FnScope N_is_of ["thing", "some"] (defScope s_is_of) := ⟨rfl, rfl, rfl, by decide +kernel, rfl, by decide +kernel, by decide +kernel⟩
abbrev s_forms_of : Stmt := (top 23)
abbrev N_forms_of : List Str := ["word"]
theorem sc_forms_of : FnScope N_forms_of ["word"] (defScope s_forms_of) := ⟨rfl, rfl, rfl, by decide +kernel, rfl, by decide +kernel, by decide +kernel⟩
abbrev s_has_form : Stmt := (top 24)
abbrev N_has_form : List Str := ["thing", "forms", "body", "at", "form"]
theorem sc_has_form : FnScope N_has_form ["thing"] (defScope s_has_form) := ⟨rfl, rfl, rfl, by decide +kernel, rfl, by decide +kernel, by decide +kernel⟩
abbrev s_bodies_of : Stmt := (top 25)
abbrev N_bodies_of : List Str := ["statement", "place", "way"]
theorem sc_bodies_of : FnScope N_bodies_of ["statement", "place"] (defScope s_bodies_of) := ⟨rfl, rfl, rfl, by decide +kernel, rfl, by decide +kernel, by decide +kernel⟩
abbrev s_walked : Stmt := (top 26)
abbrev N_walked : List Str := ["body", "ahead", "deep", "found", "index", "statement", "place", "leads", "inner"]
theorem sc_walked : FnScope N_walked ["body", "ahead", "deep", "found"] (defScope s_walked) := ⟨rfl, rfl, rfl, by decide +kernel, rfl, by decide +kernel, by decide +kernel⟩
abbrev s_want_program : Stmt := (top 27)
abbrev N_want_program : List Str := ["thing", "found"]
theorem sc_want_program : FnScope N_want_program ["thing"] (defScope s_want_program) := ⟨rfl, rfl, rfl, by decide +kernel, rfl, by decide +kernel, by decide +kernel⟩
abbrev s_want_choices : Stmt := (top 32)
abbrev N_want_choices : List Str := ["choices"]
theorem sc_want_choices : FnScope N_want_choices ["choices"] (defScope s_want_choices) := ⟨rfl, rfl, rfl, by decide +kernel, rfl, by decide +kernel, by decide +kernel⟩
abbrev s_first_place : Stmt := (top 34)
abbrev N_first_place : List Str := ["program"]
theorem sc_first_place : FnScope N_first_place ["program"] (defScope s_first_place) := ⟨rfl, rfl, rfl, by decide +kernel, rfl, by decide +kernel, by decide +kernel⟩
abbrev s_end_place : Stmt := (top 35)
abbrev N_end_place : List Str := ["program"]
theorem sc_end_place : FnScope N_end_place ["program"] (defScope s_end_place) := ⟨rfl, rfl, rfl, by decide +kernel, rfl, by decide +kernel, by decide +kernel⟩
abbrev s_next_place : Stmt := (top 41)
abbrev N_next_place : List Str := ["program", "place", "found", "index"]
theorem sc_next_place : FnScope N_next_place ["program", "place"] (defScope s_next_place) := ⟨rfl, rfl, rfl, by decide +kernel, rfl, by decide +kernel, by decide +kernel⟩
abbrev s_going : Stmt := (top 50)
abbrev N_going : List Str := ["program", "choices", "scene", "place", "used", "statement", "choice"]
theorem sc_going : FnScope N_going ["program", "choices"] (defScope s_going) := ⟨rfl, rfl, rfl, by decide +kernel, rfl, by decide +kernel, by decide +kernel⟩
abbrev s_want_let : Stmt := (top 51)
abbrev N_want_let : List Str := ["found"]
theorem sc_want_let : FnScope N_want_let ["found"] (defScope s_want_let) := ⟨rfl, rfl, rfl, by decide +kernel, rfl, by decide +kernel, by decide +kernel⟩
abbrev s_gone : Stmt := (top 52)
abbrev N_gone : List Str := ["program", "choices", "found"]
theorem sc_gone : FnScope N_gone ["program", "choices"] (defScope s_gone) := ⟨rfl, rfl, rfl, by decide +kernel, rfl, by decide +kernel, by decide +kernel⟩
abbrev s_play : Stmt := (top 53)
abbrev N_play : List Str := ["program", "choices", "found", "scene", "names", "piles", "name", "pile"]
theorem sc_play : FnScope N_play ["program", "choices"] (defScope s_play) := ⟨rfl, rfl, rfl, by decide +kernel, rfl, by decide +kernel, by decide +kernel⟩
abbrev s_pair_word : Stmt := (top 62)
abbrev N_pair_word : List Str := ["program", "choices", "i", "j", "scene"]
theorem sc_pair_word : FnScope N_pair_word ["program", "choices", "i", "j"] (defScope s_pair_word) := ⟨rfl, rfl, rfl, by decide +kernel, rfl, by decide +kernel, by decide +kernel⟩
abbrev s_want_table : Stmt := (top 80)
abbrev N_want_table : List Str := ["table_", "moves", "bad", "state", "row", "part"]
theorem sc_want_table : FnScope N_want_table ["table_"] (defScope s_want_table) := ⟨rfl, rfl, rfl, by decide +kernel, rfl, by decide +kernel, by decide +kernel⟩
abbrev s_breaking_of : Stmt := (top 81)
abbrev N_breaking_of : List Str := ["table_"]
theorem sc_breaking_of : FnScope N_breaking_of ["table_"] (defScope s_breaking_of) := ⟨rfl, rfl, rfl, by decide +kernel, rfl, by decide +kernel, by decide +kernel⟩
abbrev s_is_spot : Stmt := (top 93)
abbrev N_is_spot : List Str := ["thing"]
theorem sc_is_spot : FnScope N_is_spot ["thing"] (defScope s_is_spot) := ⟨rfl, rfl, rfl, by decide +kernel, rfl, by decide +kernel, by decide +kernel⟩
abbrev s_fault_of : Stmt := (top 94)
abbrev N_fault_of : List Str := ["places", "thing", "place", "a", "b", "index"]
theorem sc_fault_of : FnScope N_fault_of ["places", "thing"] (defScope s_fault_of) := ⟨rfl, rfl, rfl, by decide +kernel, rfl, by decide +kernel, by decide +kernel⟩
abbrev s_want_state : Stmt := (top 95)
abbrev N_want_state : List Str := ["places", "state", "fault", "is_place", "what"]
theorem sc_want_state : FnScope N_want_state ["places", "state"] (defScope s_want_state) := ⟨rfl, rfl, rfl, by decide +kernel, rfl, by decide +kernel, by decide +kernel⟩
abbrev s_steps_of : Stmt := (top 97)
abbrev N_steps_of : List Str := ["program", "state", "pair"]
theorem sc_steps_of : FnScope N_steps_of ["program", "state"] (defScope s_steps_of) := ⟨rfl, rfl, rfl, by decide +kernel, rfl, by decide +kernel, by decide +kernel⟩
abbrev s_least_steps : Stmt := (top 108)
abbrev N_least_steps : List Str := ["program", "table_", "found"]
theorem sc_least_steps : FnScope N_least_steps ["program", "table_"] (defScope s_least_steps) := ⟨rfl, rfl, rfl, by decide +kernel, rfl, by decide +kernel, by decide +kernel⟩
abbrev s_breaking : Stmt := (top 112)
abbrev N_breaking : List Str := ["program", "table_", "found", "choices", "events"]
theorem sc_breaking : FnScope N_breaking ["program", "table_"] (defScope s_breaking) := ⟨rfl, rfl, rfl, by decide +kernel, rfl, by decide +kernel, by decide +kernel⟩
abbrev s_told_run : Stmt := (top 115)
abbrev N_told_run : List Str := ["program", "table_", "choices", "events", "pair", "found", "event"]
theorem sc_told_run : FnScope N_told_run ["program", "table_", "choices"] (defScope s_told_run) := ⟨rfl, rfl, rfl, by decide +kernel, rfl, by decide +kernel, by decide +kernel⟩
abbrev s_joined : Stmt := (top 124)
abbrev N_joined : List Str := ["one", "two", "word", "first", "second"]
theorem sc_joined : FnScope N_joined ["one", "two", "word"] (defScope s_joined) := ⟨rfl, rfl, rfl, by decide +kernel, rfl, by decide +kernel, by decide +kernel⟩
abbrev s_words_of : Stmt := (top 126)
abbrev N_words_of : List Str := ["one", "two"]
theorem sc_words_of : FnScope N_words_of ["one", "two"] (defScope s_words_of) := ⟨rfl, rfl, rfl, by decide +kernel, rfl, by decide +kernel, by decide +kernel⟩
abbrev s_parting : Stmt := (top 128)
abbrev N_parting : List Str := ["one", "two", "first", "second", "word"]
theorem sc_parting : FnScope N_parting ["one", "two"] (defScope s_parting) := ⟨rfl, rfl, rfl, by decide +kernel, rfl, by decide +kernel, by decide +kernel⟩
abbrev s_alike : Stmt := (top 129)
abbrev N_alike : List Str := ["one", "two"]
theorem sc_alike : FnScope N_alike ["one", "two"] (defScope s_alike) := ⟨rfl, rfl, rfl, by decide +kernel, rfl, by decide +kernel, by decide +kernel⟩
abbrev s_leads_on : Stmt := (top 143)
abbrev N_leads_on : List Str := ["thing", "many"]
theorem sc_leads_on : FnScope N_leads_on ["thing", "many"] (defScope s_leads_on) := ⟨rfl, rfl, rfl, by decide +kernel, rfl, by decide +kernel, by decide +kernel⟩
abbrev s_want_code : Stmt := (top 146)
abbrev N_want_code : List Str := ["code", "index", "row"]
theorem sc_want_code : FnScope N_want_code ["code"] (defScope s_want_code) := ⟨rfl, rfl, rfl, by decide +kernel, rfl, by decide +kernel, by decide +kernel⟩
abbrev s_run : Stmt := (top 148)
abbrev N_run : List Str := ["code", "choices", "machine", "scene", "names", "name", "pile"]
theorem sc_run : FnScope N_run ["code", "choices"] (defScope s_run) := ⟨rfl, rfl, rfl, by decide +kernel, rfl, by decide +kernel, by decide +kernel⟩
abbrev s_watch : Stmt := (top 149)
abbrev N_watch : List Str := ["code", "table_", "choices", "machine", "eyes", "looked", "events", "step", "deed", "thing", "pair"]
theorem sc_watch : FnScope N_watch ["code", "table_", "choices"] (defScope s_watch) := ⟨rfl, rfl, rfl, by decide +kernel, rfl, by decide +kernel, by decide +kernel⟩
abbrev s_law_pool : Stmt := (top 151)
abbrev N_law_pool : List Str := ["script", "k", "cell", "big", "mixed"]
theorem sc_law_pool : FnScope N_law_pool ["script", "k"] (defScope s_law_pool) := ⟨rfl, rfl, rfl, by decide +kernel, rfl, by decide +kernel, by decide +kernel⟩
abbrev s_law_take : Stmt := (top 152)
abbrev N_law_take : List Str := ["source", "top", "drawn"]
theorem sc_law_take : FnScope N_law_take ["source", "top"] (defScope s_law_take) := ⟨rfl, rfl, rfl, by decide +kernel, rfl, by decide +kernel, by decide +kernel⟩
abbrev s_law_one : Stmt := (top 153)
abbrev N_law_one : List Str := ["source", "things"]
theorem sc_law_one : FnScope N_law_one ["source", "things"] (defScope s_law_one) := ⟨rfl, rfl, rfl, by decide +kernel, rfl, by decide +kernel, by decide +kernel⟩
abbrev s_law_wrong : Stmt := (top 154)
abbrev N_law_wrong : List Str := ["source", "deep", "turn", "program", "row", "table", "code"]
theorem sc_law_wrong : FnScope N_law_wrong ["source"] (defScope s_law_wrong) := ⟨rfl, rfl, rfl, by decide +kernel, rfl, by decide +kernel, by decide +kernel⟩
abbrev s_law_asked : Stmt := (top 155)
abbrev N_law_asked : List Str := ["way", "program", "table", "code", "choices", "other"]
theorem sc_law_asked : FnScope N_law_asked ["way", "program", "table", "code", "choices", "other"] (defScope s_law_asked) := ⟨rfl, rfl, rfl, by decide +kernel, rfl, by decide +kernel, by decide +kernel⟩
abbrev s_law_refusal : Stmt := (top 156)
abbrev N_law_refusal : List Str := ["way", "program", "table", "code", "choices", "other", "e"]
theorem sc_law_refusal : FnScope N_law_refusal ["way", "program", "table", "code", "choices", "other"] (defScope s_law_refusal) := ⟨rfl, rfl, rfl, by decide +kernel, rfl, by decide +kernel, by decide +kernel⟩
abbrev s_law_due : Stmt := (top 157)
abbrev N_law_due : List Str := ["way", "program", "table", "code", "choices", "behind_v"]
theorem sc_law_due : FnScope N_law_due ["way", "program", "table", "code", "choices"] (defScope s_law_due) := ⟨rfl, rfl, rfl, by decide +kernel, rfl, by decide +kernel, by decide +kernel⟩
abbrev s_law_last : Stmt := (top 158)
abbrev N_law_last : List Str := ["way", "fine", "table", "e"]
theorem sc_law_last : FnScope N_law_last ["way", "fine", "table"] (defScope s_law_last) := ⟨rfl, rfl, rfl, by decide +kernel, rfl, by decide +kernel, by decide +kernel⟩
abbrev s_law_single_right : Stmt := (top 159)
abbrev N_law_single_right : List Str := ["table", "fine", "way", "due"]
theorem sc_law_single_right : FnScope N_law_single_right ["table"] (defScope s_law_single_right) := ⟨rfl, rfl, rfl, by decide +kernel, rfl, by decide +kernel, by decide +kernel⟩
abbrev s_law : Stmt := (top 160)
abbrev N_law : List Str := ["script", "source", "wrong", "fine", "turn", "way", "right", "program", "table", "code", "choices", "due", "k"]
theorem sc_law : FnScope N_law ["script"] (defScope s_law) := ⟨rfl, rfl, rfl, by decide +kernel, rfl, by decide +kernel, by decide +kernel⟩
abbrev s_is_row0 : Stmt := (top 78)
abbrev N_is_row0 : List Str := ["row", "many", "state"]
theorem sc_is_row0 : FnScope N_is_row0 ["row", "many"] (defScope s_is_row0) := ⟨rfl, rfl, rfl, by decide +kernel, rfl, by decide +kernel, by decide +kernel⟩
abbrev s_is_row1 : Stmt := (top 144)
abbrev N_is_row1 : List Str := ["thing", "many", "is_last"]
theorem sc_is_row1 : FnScope N_is_row1 ["thing", "many", "is_last"] (defScope s_is_row1) := ⟨rfl, rfl, rfl, by decide +kernel, rfl, by decide +kernel, by decide +kernel⟩
abbrev s_Scene_init : Stmt := (inClass (top 48) 0)
abbrev N_Scene_init : List Str := ["self", "name", "pile"]
theorem sc_Scene_init : FnScope N_Scene_init ["self"] (defScope s_Scene_init) := ⟨rfl, rfl, rfl, by decide +kernel, rfl, by decide +kernel, by decide +kernel⟩
abbrev s_Going_init : Stmt := (inClass (top 49) 0)
abbrev N_Going_init : List Str := ["self", "scene", "place", "bad", "is_full"]
theorem sc_Going_init : FnScope N_Going_init ["self", "scene", "place", "bad", "is_full"] (defScope s_Going_init) := ⟨rfl, rfl, rfl, by decide +kernel, rfl, by decide +kernel, by decide +kernel⟩
abbrev s_Told_init : Stmt := (inClass (top 71) 0)
abbrev N_Told_init : List Str := ["self", "moves", "marks"]
theorem sc_Told_init : FnScope N_Told_init ["self", "moves", "marks"] (defScope s_Told_init) := ⟨rfl, rfl, rfl, by decide +kernel, rfl, by decide +kernel, by decide +kernel⟩
abbrev s_Breaking_init : Stmt := (inClass (top 72) 0)
abbrev N_Breaking_init : List Str := ["self", "one"]
theorem sc_Breaking_init : FnScope N_Breaking_init ["self", "one"] (defScope s_Breaking_init) := ⟨rfl, rfl, rfl, by decide +kernel, rfl, by decide +kernel, by decide +kernel⟩
abbrev s_Book_init : Stmt := (inClass (top 137) 0)
abbrev N_Book_init : List Str := ["self", "program", "tables", "one"]
theorem sc_Book_init : FnScope N_Book_init ["self", "program", "tables"] (defScope s_Book_init) := ⟨rfl, rfl, rfl, by decide +kernel, rfl, by decide +kernel, by decide +kernel⟩
/-- a def that stands under a name of the module -/
structure DefN (K : PySem.W.Frag) (mg : Str → Option Value) (g x : Str) (st : Stmt) : Prop where
  ex : ∃ f fd, mg g = some (.ref f) ∧ Fun K x x st f fd
theorem DefN.has {P : Program} {w : World} {K : PySem.W.Frag} {mg : Str → Option Value} {base : Heap} {g x : Str} {st : Stmt} {N ps : List Str} {k : Nat} {sp : Sp} (D : DefN K mg g x st) (S : FnScope N ps (defScope st))
    (hb : ∀ (kV doc pm : Value) (an : Option Addr) (cdv ct : Value) (us : List Value), us.length = ps.length → bindArgs (PySem.W.fnOf x x (defArgs st) (defBody st) (defScope st) .none kV doc pm an cdv ct) ⟨us, []⟩ = pure (ps.zip us))
    (len : ∀ vs H Q E, sp vs H Q E → vs.length = ps.length)
    (hbody : ∀ (f : Addr) (cdv : Value) (A : Around) (outer : List Env) (s : Shared) (H : Hp) (vs : List V) (Q : VK) (E : XK), Room k (A.deeper (envOfC x (defScope st) s.heap.objs.size f cdv)) → sp vs H Q E →
      ∃ t, PSs (cxOf (L2.CX P w) P w K mg base N x (defScope st) f cdv A outer s H E) (defBody st) t ∧ t { nx := fun _ H' => Q .non H', rt := Q } (start N vs) H) : Has P w K mg base (k + 1) g ps sp := by
  obtain ⟨f, fd, hm, F⟩ := D.ex
  exact ⟨f, fd, hm, F.kp, F.binds hb, F.okX S len (hbody f)⟩
/-- what the top has left -/
structure Tx (P : Program) (K : PySem.W.Frag) (mg : Str → Option Value) : Prop where
  d_is_number : DefN K mg "is_number" "is_number" s_is_number
  d_is_of : DefN K mg "is_of" "is_of" s_is_of
  d_forms_of : DefN K mg "forms_of" "forms_of" s_forms_of
  d_has_form : DefN K mg "has_form" "has_form" s_has_form
  d_bodies_of : DefN K mg "bodies_of" "bodies_of" s_bodies_of
  d_walked : DefN K mg "walked" "walked" s_walked
  d_want_program : DefN K mg "want_program" "want_program" s_want_program
  d_want_choices : DefN K mg "want_choices" "want_choices" s_want_choices
  d_first_place : DefN K mg "first_place" "first_place" s_first_place
  d_end_place : DefN K mg "end_place" "end_place" s_end_place
  d_next_place : DefN K mg "next_place" "next_place" s_next_place
  d_going : DefN K mg "going" "going" s_going
  d_want_let : DefN K mg "want_let" "want_let" s_want_let
  d_gone : DefN K mg "gone" "gone" s_gone
  d_play : DefN K mg "play" "play" s_play
  d_pair_word : DefN K mg "pair_word" "pair_word" s_pair_word
  d_want_table : DefN K mg "want_table" "want_table" s_want_table
  d_breaking_of : DefN K mg "breaking_of" "breaking_of" s_breaking_of
  d_is_spot : DefN K mg "is_spot" "is_spot" s_is_spot
  d_fault_of : DefN K mg "fault_of" "fault_of" s_fault_of
  d_want_state : DefN K mg "want_state" "want_state" s_want_state
  d_steps_of : DefN K mg "steps_of" "steps_of" s_steps_of
  d_least_steps : DefN K mg "least_steps" "least_steps" s_least_steps
  d_breaking : DefN K mg "breaking" "breaking" s_breaking
  d_told_run : DefN K mg "told_run" "told_run" s_told_run
  d_joined : DefN K mg "joined" "joined" s_joined
  d_words_of : DefN K mg "words_of" "words_of" s_words_of
  d_parting : DefN K mg "parting" "parting" s_parting
  d_alike : DefN K mg "alike" "alike" s_alike
  d_leads_on : DefN K mg "leads_on" "leads_on" s_leads_on
  d_want_code : DefN K mg "want_code" "want_code" s_want_code
  d_run : DefN K mg "run" "run" s_run
  d_watch : DefN K mg "watch" "watch" s_watch
  d_law_pool : DefN K mg "_law_pool" "_law_pool" s_law_pool
  d_law_take : DefN K mg "_law_take" "_law_take" s_law_take
  d_law_one : DefN K mg "_law_one" "_law_one" s_law_one
  d_law_wrong : DefN K mg "_law_wrong" "_law_wrong" s_law_wrong
  d_law_asked : DefN K mg "_law_asked" "_law_asked" s_law_asked
  d_law_refusal : DefN K mg "_law_refusal" "_law_refusal" s_law_refusal
  d_law_due : DefN K mg "_law_due" "_law_due" s_law_due
  d_law_last : DefN K mg "_law_last" "_law_last" s_law_last
  d_law_single_right : DefN K mg "_law_single_right" "_law_single_right" s_law_single_right
  d_law : DefN K mg "law" "law" s_law
  d_is_row_tables : DefN K mg "is_row_tables" "is_row" s_is_row0
  d_is_row_machine : DefN K mg "is_row_machine" "is_row" s_is_row1
  f_isinstance : mg "isinstance" = none
  f_int : mg "int" = none
  f_bool : mg "bool" = none
  f_tuple : mg "tuple" = none
  f_str : mg "str" = none
  f_len : mg "len" = none
  f_all : mg "all" = none
  f_enumerate : mg "enumerate" = none
  f_range : mg "range" = none
  f_max : mg "max" = none
  f_any : mg "any" = none
  g_MOST_STATEMENTS : ∃ t, mg "MOST_STATEMENTS" = some (.int 40 t)
  g_DEEPEST : ∃ t, mg "DEEPEST" = some (.int 6 t)
  g_MOST_CHOICES : ∃ t, mg "MOST_CHOICES" = some (.int 3000 t)
  g_MOST_THINGS : ∃ t, mg "MOST_THINGS" = some (.int 200 t)
  g_MOST_STATES : ∃ t, mg "MOST_STATES" = some (.int 200 t)
  g_MOST_TABLES : ∃ t, mg "MOST_TABLES" = some (.int 8 t)
  g_LOOP : ∃ t, mg "LOOP" = some (.str "loop" t)
  g_EITHER : ∃ t, mg "EITHER" = some (.str "either" t)
  g_JUMP : ∃ t, mg "JUMP" = some (.str "jump" t)
  g_STOP : ∃ t, mg "STOP" = some (.str "stop" t)
  g_ALL_OF : ∃ t, mg "ALL_OF" = some (.str "and" t)
  g_ONE_OF : ∃ t, mg "ONE_OF" = some (.str "or" t)
  g_LESS : ∃ t, mg "LESS" = some (.str "less" t)
  g_NAMES : mg "NAMES" = some (.ref (He.ga K "NAMES"))
  t_NAMES : ∀ H, SqT K H (He.ga K "NAMES") [V.str "a", V.str "b", V.str "c", V.str "d"]
  g_PILES : mg "PILES" = some (.ref (He.ga K "PILES"))
  t_PILES : ∀ H, SqT K H (He.ga K "PILES") [V.str "p", V.str "q"]
  g_OWN_WORDS : mg "OWN_WORDS" = some (.ref (He.ga K "OWN_WORDS"))
  t_OWN_WORDS : ∀ H, SqT K H (He.ga K "OWN_WORDS") [V.str "u", V.str "v", V.str "w"]
  g_LETTERS : mg "LETTERS" = some (.ref (He.ga K "LETTERS"))
  t_LETTERS : ∀ H, SqT K H (He.ga K "LETTERS") [V.str "e.putp", V.str "e.putq", V.str "e.takep", V.str "e.takeq", V.str "e.end", V.str "e.u", V.str "e.v", V.str "e.w", V.str "y.putp", V.str "y.putq", V.str "y.takep", V.str "y.takeq", V.str "y.end", V.str "y.u", V.str "y.v", V.str "y.w", V.str "y.new"]
  g_SPOTS : mg "SPOTS" = some (.ref (He.ga K "SPOTS"))
  t_SPOTS : ∀ H, SqT K H (He.ga K "SPOTS") [V.non, V.str "a", V.str "b", V.str "c", V.str "d", V.str "p", V.str "q", V.str "x"]
  ref : PySem.RefX.RefT P K mg (He.ga K "Refused") (He.ma K (He.ga K "Refused") "__init__")
  r_BadProgram : PySem.RefX.RefC K (He.ga K "Refused") (He.ma K (He.ga K "Refused") "__init__") (He.ga K "BadProgram")
  g_BadProgram : mg "BadProgram" = some (.ref (He.ga K "BadProgram"))
  r_BadWord : PySem.RefX.RefC K (He.ga K "Refused") (He.ma K (He.ga K "Refused") "__init__") (He.ga K "BadWord")
  g_BadWord : mg "BadWord" = some (.ref (He.ga K "BadWord"))
  r_BadChoices : PySem.RefX.RefC K (He.ga K "Refused") (He.ma K (He.ga K "Refused") "__init__") (He.ga K "BadChoices")
  g_BadChoices : mg "BadChoices" = some (.ref (He.ga K "BadChoices"))
  r_BadThing : PySem.RefX.RefC K (He.ga K "Refused") (He.ma K (He.ga K "Refused") "__init__") (He.ga K "BadThing")
  g_BadThing : mg "BadThing" = some (.ref (He.ga K "BadThing"))
  r_BadPlace : PySem.RefX.RefC K (He.ga K "Refused") (He.ma K (He.ga K "Refused") "__init__") (He.ga K "BadPlace")
  g_BadPlace : mg "BadPlace" = some (.ref (He.ga K "BadPlace"))
  r_BadCode : PySem.RefX.RefC K (He.ga K "Refused") (He.ma K (He.ga K "Refused") "__init__") (He.ga K "BadCode")
  g_BadCode : mg "BadCode" = some (.ref (He.ga K "BadCode"))
  r_BadTable : PySem.RefX.RefC K (He.ga K "Refused") (He.ma K (He.ga K "Refused") "__init__") (He.ga K "BadTable")
  g_BadTable : mg "BadTable" = some (.ref (He.ga K "BadTable"))
  r_TooMany : PySem.RefX.RefC K (He.ga K "Refused") (He.ma K (He.ga K "Refused") "__init__") (He.ga K "TooMany")
  g_TooMany : mg "TooMany" = some (.ref (He.ga K "TooMany"))
end An
namespace An
open PySem PySem.Spec PyProof.Rows L2
def errs7 : List Str := ["BadProgram", "BadTable", "BadCode", "BadPlace", "BadThing", "BadWord", "TooMany"]
/-! ### the head's own looks -/
def clo (g : Addr → Option Obj) : Nat → Addr → List Addr
  | 0, a => [a]
  | n + 1, a => a :: (match g a with
    | some o => (He.refsD o).flatMap (clo g n)
    | none => [])
def asY (g : Addr → Option Obj) (rt : List (Str × Nat)) : List Addr := mainGlobals :: PySem.cStatics :: rt.flatMap fun p => clo g p.2 (He.ga (He.frG g [mainGlobals]) p.1)
def isNv : Value → Bool
  | .none => true
  | _ => false
abbrev FnR : Type := Option (Str × Str × Arguments × FuncBody × Scope × Addr × Addr)
def fnR (K : PySem.W.Frag) (f : Addr) : FnR := match K.lookup f with
  | some ⟨_, _, .func fd, _⟩ => some (fd.name, fd.qualname, fd.params, fd.body, fd.scope, fd.globals, fd.builtins)
  | _ => none
def fnRv : FnR := some ("__init__", "Refused.__init__", PySem.RefX.iA, .stmts PySem.RefX.iB, PySem.RefX.iS, mainGlobals, builtinsNs)
def fileB (K : PySem.W.Frag) (file : Str) (cda : Addr) : Bool := match K.lookup cda with
  | some ⟨_, _, .fields vs, _⟩ => (match vs[2]? with
    | some (Value.str fl _) => file == fl
    | _ => false)
  | _ => false
def cellB (K : PySem.W.Frag) (D cc : Addr) : Bool := match K.lookup cc with
  | some ⟨_, _, .cell (some (.ref D')), _⟩ => decide (D' = D)
  | _ => false
def cloB (K : PySem.W.Frag) (file : Str) (D : Addr) (fd : FuncData) : Bool := match fd.code, fd.closure with
  | .ref cda, [(x, cc)] => decide (x = "__class__") && (fileB K file cda && cellB K D cc)
  | _, _ => false
def initB (K : PySem.W.Frag) (file : Str) (D fI : Addr) : Bool := match K.lookup fI with
  | some ⟨_, _, .func fd, _⟩ => PySem.W.codeIn K fd.code "Refused.__init__" && (isNv fd.defaults && (isNv fd.kwdefaults && cloB K file D fd))
  | _ => false
def refTB (K : PySem.W.Frag) (file : Str) (D fI : Addr) : Bool := (PySem.W.clsIn K D).isSome && (He.eqO (PySem.W.nsIn K PySem.cStatics "thirdparty.any") (some none) && (decide (PySem.W.typeIn K (.ref fI) = some (.type "function")) && initB K file D fI))
def excB (K : PySem.W.Frag) (C : Addr) : Bool := match K.lookup C with
  | some ⟨.type "type", _, .cls cd, sl⟩ => (match cd.mro, sl.toList with
    | .ref C' :: bm, [_, _, _, _, some (.builtin n), _] => decide (C' = C) && (decide (n = "ValueError.__new__") && (!cd.hasDel && (cd.hasDict && PySem.HandSPX.refsVE bm)))
    | _, _ => false)
  | _ => false
def refCB (K : PySem.W.Frag) (D fI C : Addr) : Bool := excB K C && (He.eqO (PySem.W.findIn K (.ref C) "__setattr__") (some (some (.builtin "object.__setattr__"))) && (He.eqO (PySem.W.findIn K (.ref C) "what") (some none) && (He.eqO (PySem.W.findIn K (.ref C) "__init__") (some (some (.ref fI))) &&
  (PySem.W.keepIn K (.ref C) && (decide (PySem.W.subIn K (.ref C) (.type "BaseException") = some true) && (decide (PySem.W.typeIn K (.ref C) = some (.type "type")) && (decide (PySem.W.mroIn K C (.ref D) = some true) &&
  (He.eqO (PySem.W.ks_superIn K C D "__init__") (some (some (.builtin "ValueError.__init__"))) && decide (PySem.W.subIn K (.ref C) (.type "ValueError") = some true)))))))))
theorem isNv_ok {v : Value} (h : isNv v = true) : v = .none := by
  cases v <;> first | rfl | cases h
theorem refT_of {P : Program} {K : PySem.W.Frag} {mg : Str → Option Value} {D fI : Addr} (h : refTB K P.main.file D fI = true) (e : fnR K fI = fnRv) (hs : mg "super" = none) (ht : (P.main.scope.names.lookup ("super" : Str)).isSome = false) : PySem.RefX.RefT P K mg D fI := by
  obtain ⟨h1, h⟩ := He.ba h
  obtain ⟨h2, h⟩ := He.ba h
  obtain ⟨h3, h⟩ := He.ba h
  refine ⟨Option.isSome_iff_exists.mp h1, hs, He.eqO_ok h2, of_decide_eq_true h3, ?_, ht⟩
  unfold initB at h
  unfold fnR fnRv at e
  cases q : K.lookup fI with
  | none =>
    rw [q] at h
    cases h
  | some o =>
    obtain ⟨oc, od, dt, osl⟩ := o
    rw [q] at h e
    cases dt with
    | func fd =>
      obtain ⟨n1, n2, n3, n4, n5, n6, n7, n8, n9, n10, n11, n12, n13, n14, n15⟩ := fd
      have e2 : (some (n1, n2, n3, n4, n5, n6, n15) : FnR) = some (("__init__" : Str), ("Refused.__init__" : Str), PySem.RefX.iA, FuncBody.stmts PySem.RefX.iB, PySem.RefX.iS, mainGlobals, builtinsNs) := e
      simp only [Option.some.injEq, Prod.mk.injEq] at e2
      obtain ⟨r1, r2, r3, r4, r5, r6, r9⟩ := e2
      subst r1 r2 r3 r4 r5 r6 r9
      obtain ⟨g1, h⟩ := He.ba h
      obtain ⟨g2, h⟩ := He.ba h
      obtain ⟨g3, g4⟩ := He.ba h
      have g2' := isNv_ok g2
      have g3' := isNv_ok g3
      dsimp only at g2' g3' g1 g4
      subst g2' g3'
      unfold cloB at g4
      dsimp only at g4
      split at g4
      · rename_i cda x cc u1 u2
        obtain ⟨k1, g4⟩ := He.ba g4
        obtain ⟨k2, k3⟩ := He.ba g4
        have k1' := of_decide_eq_true k1
        subst k1'
        unfold fileB at k2
        split at k2
        · rename_i ccl cdd vs ccs lc
          split at k2
          · rename_i fl tf hv
            unfold cellB at k3
            split at k3
            · rename_i cl cld D' csl ld
              have k3' := of_decide_eq_true k3
              subst k3'
              exact ⟨oc, od, n10, n11, n12, cda, cc, n14, osl, ccl, cdd, vs, ccs, fl, tf, cl, cld, csl, rfl, g1, lc, hv, k2, ld⟩
            · cases k3
          · cases k2
        · cases k2
      · cases g4
    | _ => cases h
theorem refC_of {K : PySem.W.Frag} {D fI C : Addr} (h : refCB K D fI C = true) : PySem.RefX.RefC K D fI C := by
  obtain ⟨h1, h⟩ := He.ba h
  obtain ⟨h2, h⟩ := He.ba h
  obtain ⟨h3, h⟩ := He.ba h
  obtain ⟨h4, h⟩ := He.ba h
  obtain ⟨h5, h⟩ := He.ba h
  obtain ⟨h6, h⟩ := He.ba h
  obtain ⟨h7, h⟩ := He.ba h
  obtain ⟨h8, h⟩ := He.ba h
  obtain ⟨h9, h10⟩ := He.ba h
  refine ⟨?_, He.eqO_ok h2, He.eqO_ok h3, He.eqO_ok h4, h5, of_decide_eq_true h6, of_decide_eq_true h7, of_decide_eq_true h8, He.eqO_ok h9, of_decide_eq_true h10⟩
  unfold excB at h1
  split at h1
  · rename_i dd cd sl ho
    split at h1
    · rename_i C' bm k0 k1 k2 k3 n k5 hm hs
      obtain ⟨g1, h1⟩ := He.ba h1
      obtain ⟨g2, h1⟩ := He.ba h1
      obtain ⟨g3, h1⟩ := He.ba h1
      obtain ⟨g4, g5⟩ := He.ba h1
      have g1' := of_decide_eq_true g1
      have g2' := of_decide_eq_true g2
      have g3' : cd.hasDel = false := by simpa using g3
      subst g1' g2'
      obtain ⟨nm, bs, mro, ns, qn, hd, sn, sub, ab, col, del⟩ := cd
      dsimp only at hm g3' g4
      subst hm g3' g4
      have hsl : sl = #[k0, k1, k2, k3, some (.builtin "ValueError.__new__"), k5] := by
        obtain ⟨l⟩ := sl
        simp only at hs
        rw [hs]
      subst hsl
      exact ⟨nm, qn, ns, bs, bm, sn, sub, ab, col, dd, k0, k1, k2, k3, k5, ho, g5⟩
    · cases h1
  · cases h1
theorem fun_of {K : PySem.W.Frag} {x q : Str} {st : Stmt} {f : Addr} {fd : FuncData} (F : FunD K x q (defArgs st) (defBody st) (defScope st) [] [] f fd) : Fun K x q st f fd := by
  obtain ⟨⟨oc, od, dV, kV, doc, pm, an, cdv, ct, osl, h1, h2, h3, h4, h5⟩, kp⟩ := F
  rcases h4 with ⟨_, rfl⟩ | ⟨h, _⟩
  · exact ⟨⟨oc, od, kV, doc, pm, an, cdv, ct, osl, h1, h2, h3⟩, kp⟩
  · exact absurd rfl h
/-! ### what is read at the head -/
def nm0 : List PySem.Str := [PySem.Str.ofString "heappop", PySem.Str.ofString "heappush", PySem.Str.ofString "_wall", PySem.Str.ofString "Refused", PySem.Str.ofString "BadProgram", PySem.Str.ofString "BadWord", PySem.Str.ofString "BadChoices", PySem.Str.ofString "BadThing", PySem.Str.ofString "BadPlace", PySem.Str.ofString "BadCode", PySem.Str.ofString "BadTable", PySem.Str.ofString "Kept", PySem.Str.ofString "TooMany", PySem.Str.ofString "NAMES", PySem.Str.ofString "PILES", PySem.Str.ofString "OWN_WORDS", PySem.Str.ofString "LOOP", PySem.Str.ofString "EITHER", PySem.Str.ofString "MOST_STATEMENTS", PySem.Str.ofString "DEEPEST", PySem.Str.ofString "is_number", PySem.Str.ofString "is_of", PySem.Str.ofString "forms_of", PySem.Str.ofString "has_form", PySem.Str.ofString "bodies_of", PySem.Str.ofString "walked", PySem.Str.ofString "want_program", PySem.Str.ofString "made_program", PySem.Str.ofString "MOST_CHOICES", PySem.Str.ofString "MOST_THINGS", PySem.Str.ofString "want_choices", PySem.Str.ofString "first_place", PySem.Str.ofString "end_place", PySem.Str.ofString "body_at", PySem.Str.ofString "statement_at"]
def nm1 : List PySem.Str := [PySem.Str.ofString "behind", PySem.Str.ofString "statement_at_leads", PySem.Str.ofString "ways_at", PySem.Str.ofString "next_place", PySem.Str.ofString "NEW_plays", PySem.Str.ofString "TAKE_plays", PySem.Str.ofString "MOVE", PySem.Str.ofString "PUT", PySem.Str.ofString "END", PySem.Str.ofString "Scene", PySem.Str.ofString "Going", PySem.Str.ofString "going", PySem.Str.ofString "want_let", PySem.Str.ofString "gone", PySem.Str.ofString "play", PySem.Str.ofString "ELDER", PySem.Str.ofString "YOUNGER", PySem.Str.ofString "MADE", PySem.Str.ofString "NEW_words", PySem.Str.ofString "LETTERS", PySem.Str.ofString "letter_of", PySem.Str.ofString "letters_of", PySem.Str.ofString "pair_word", PySem.Str.ofString "both", PySem.Str.ofString "some", PySem.Str.ofString "just_one", PySem.Str.ofString "first_alone", PySem.Str.ofString "Beside", PySem.Str.ofString "MOST_STATES", PySem.Str.ofString "Told", PySem.Str.ofString "Breaking", PySem.Str.ofString "rows_met", PySem.Str.ofString "lots_alike", PySem.Str.ofString "least_of", PySem.Str.ofString "finished"]
def nm2 : List PySem.Str := [PySem.Str.ofString "least_table", PySem.Str.ofString "is_row", PySem.Str.ofString "is_row_tables", PySem.Str.ofString "want_table", PySem.Str.ofString "breaking_of", PySem.Str.ofString "ENDED", PySem.Str.ofString "SPOTS", PySem.Str.ofString "emptied", PySem.Str.ofString "made", PySem.Str.ofString "taken", PySem.Str.ofString "moved", PySem.Str.ofString "gone_through", PySem.Str.ofString "effects", PySem.Str.ofString "ways_of", PySem.Str.ofString "state_key", PySem.Str.ofString "is_spot", PySem.Str.ofString "fault_of", PySem.Str.ofString "want_state", PySem.Str.ofString "pair_key", PySem.Str.ofString "steps_of", PySem.Str.ofString "first_state", PySem.Str.ofString "TAKE_verdicts", PySem.Str.ofString "moved_by", PySem.Str.ofString "led_by", PySem.Str.ofString "Watch", PySem.Str.ofString "first_break", PySem.Str.ofString "costs_of", PySem.Str.ofString "least_way", PySem.Str.ofString "least_steps", PySem.Str.ofString "choice_to", PySem.Str.ofString "done_on", PySem.Str.ofString "followed", PySem.Str.ofString "breaking", PySem.Str.ofString "told_event", PySem.Str.ofString "told_run"]
def nm3 : List PySem.Str := [PySem.Str.ofString "Walks", PySem.Str.ofString "program_table", PySem.Str.ofString "ALL_OF", PySem.Str.ofString "ONE_OF", PySem.Str.ofString "LESS", PySem.Str.ofString "first_word", PySem.Str.ofString "joined", PySem.Str.ofString "words_of", PySem.Str.ofString "has_word", PySem.Str.ofString "parting", PySem.Str.ofString "alike", PySem.Str.ofString "changed", PySem.Str.ofString "edited", PySem.Str.ofString "with_put", PySem.Str.ofString "MOST_TABLES", PySem.Str.ofString "MOST_STANDING", PySem.Str.ofString "Book", PySem.Str.ofString "JUMP", PySem.Str.ofString "STOP", PySem.Str.ofString "TAKE_machine", PySem.Str.ofString "MOST_ROWS", PySem.Str.ofString "leads_on", PySem.Str.ofString "is_row_machine", PySem.Str.ofString "want_code", PySem.Str.ofString "Machine", PySem.Str.ofString "run", PySem.Str.ofString "watch", PySem.Str.ofString "_law_pool", PySem.Str.ofString "_law_take", PySem.Str.ofString "_law_one", PySem.Str.ofString "_law_wrong", PySem.Str.ofString "_law_asked", PySem.Str.ofString "_law_refusal", PySem.Str.ofString "_law_due", PySem.Str.ofString "_law_last"]
def nm4 : List PySem.Str := [PySem.Str.ofString "_law_single_right"]
def nms : List PySem.Str := nm0 ++ nm1 ++ nm2 ++ nm3 ++ nm4
def dd_is_number : He.DefD := ⟨("is_number", none), "is_number", "is_number", defArgs s_is_number, defBody s_is_number, defScope s_is_number, [], []⟩
def dd_is_of : He.DefD := ⟨("is_of", none), "is_of", "is_of", defArgs s_is_of, defBody s_is_of, defScope s_is_of, [], []⟩
def dd_forms_of : He.DefD := ⟨("forms_of", none), "forms_of", "forms_of", defArgs s_forms_of, defBody s_forms_of, defScope s_forms_of, [], []⟩
def dd_has_form : He.DefD := ⟨("has_form", none), "has_form", "has_form", defArgs s_has_form, defBody s_has_form, defScope s_has_form, [], []⟩
def dd_bodies_of : He.DefD := ⟨("bodies_of", none), "bodies_of", "bodies_of", defArgs s_bodies_of, defBody s_bodies_of, defScope s_bodies_of, [], []⟩
def dd_walked : He.DefD := ⟨("walked", none), "walked", "walked", defArgs s_walked, defBody s_walked, defScope s_walked, [], []⟩
def dd_want_program : He.DefD := ⟨("want_program", none), "want_program", "want_program", defArgs s_want_program, defBody s_want_program, defScope s_want_program, [], []⟩
def dd_want_choices : He.DefD := ⟨("want_choices", none), "want_choices", "want_choices", defArgs s_want_choices, defBody s_want_choices, defScope s_want_choices, [], []⟩
def dd_first_place : He.DefD := ⟨("first_place", none), "first_place", "first_place", defArgs s_first_place, defBody s_first_place, defScope s_first_place, [], []⟩
def dd_end_place : He.DefD := ⟨("end_place", none), "end_place", "end_place", defArgs s_end_place, defBody s_end_place, defScope s_end_place, [], []⟩
def dd_next_place : He.DefD := ⟨("next_place", none), "next_place", "next_place", defArgs s_next_place, defBody s_next_place, defScope s_next_place, [], []⟩
def dd_going : He.DefD := ⟨("going", none), "going", "going", defArgs s_going, defBody s_going, defScope s_going, [], []⟩
def dd_want_let : He.DefD := ⟨("want_let", none), "want_let", "want_let", defArgs s_want_let, defBody s_want_let, defScope s_want_let, [], []⟩
def dd_gone : He.DefD := ⟨("gone", none), "gone", "gone", defArgs s_gone, defBody s_gone, defScope s_gone, [], []⟩
def dd_play : He.DefD := ⟨("play", none), "play", "play", defArgs s_play, defBody s_play, defScope s_play, [], []⟩
def dd_pair_word : He.DefD := ⟨("pair_word", none), "pair_word", "pair_word", defArgs s_pair_word, defBody s_pair_word, defScope s_pair_word, [], []⟩
def dd_want_table : He.DefD := ⟨("want_table", none), "want_table", "want_table", defArgs s_want_table, defBody s_want_table, defScope s_want_table, [], []⟩
def dd_breaking_of : He.DefD := ⟨("breaking_of", none), "breaking_of", "breaking_of", defArgs s_breaking_of, defBody s_breaking_of, defScope s_breaking_of, [], []⟩
def dd_is_spot : He.DefD := ⟨("is_spot", none), "is_spot", "is_spot", defArgs s_is_spot, defBody s_is_spot, defScope s_is_spot, [], []⟩
def dd_fault_of : He.DefD := ⟨("fault_of", none), "fault_of", "fault_of", defArgs s_fault_of, defBody s_fault_of, defScope s_fault_of, [], []⟩
def dd_want_state : He.DefD := ⟨("want_state", none), "want_state", "want_state", defArgs s_want_state, defBody s_want_state, defScope s_want_state, [], []⟩
def dd_steps_of : He.DefD := ⟨("steps_of", none), "steps_of", "steps_of", defArgs s_steps_of, defBody s_steps_of, defScope s_steps_of, [], []⟩
def dd_least_steps : He.DefD := ⟨("least_steps", none), "least_steps", "least_steps", defArgs s_least_steps, defBody s_least_steps, defScope s_least_steps, [], []⟩
def dd_breaking : He.DefD := ⟨("breaking", none), "breaking", "breaking", defArgs s_breaking, defBody s_breaking, defScope s_breaking, [], []⟩
def dd_told_run : He.DefD := ⟨("told_run", none), "told_run", "told_run", defArgs s_told_run, defBody s_told_run, defScope s_told_run, [], []⟩
def dd_joined : He.DefD := ⟨("joined", none), "joined", "joined", defArgs s_joined, defBody s_joined, defScope s_joined, [], []⟩
def dd_words_of : He.DefD := ⟨("words_of", none), "words_of", "words_of", defArgs s_words_of, defBody s_words_of, defScope s_words_of, [], []⟩
def dd_parting : He.DefD := ⟨("parting", none), "parting", "parting", defArgs s_parting, defBody s_parting, defScope s_parting, [], []⟩
def dd_alike : He.DefD := ⟨("alike", none), "alike", "alike", defArgs s_alike, defBody s_alike, defScope s_alike, [], []⟩
def dd_leads_on : He.DefD := ⟨("leads_on", none), "leads_on", "leads_on", defArgs s_leads_on, defBody s_leads_on, defScope s_leads_on, [], []⟩
def dd_want_code : He.DefD := ⟨("want_code", none), "want_code", "want_code", defArgs s_want_code, defBody s_want_code, defScope s_want_code, [], []⟩
def dd_run : He.DefD := ⟨("run", none), "run", "run", defArgs s_run, defBody s_run, defScope s_run, [], []⟩
def dd_watch : He.DefD := ⟨("watch", none), "watch", "watch", defArgs s_watch, defBody s_watch, defScope s_watch, [], []⟩
def dd_law_pool : He.DefD := ⟨("_law_pool", none), "_law_pool", "_law_pool", defArgs s_law_pool, defBody s_law_pool, defScope s_law_pool, [], []⟩
def dd_law_take : He.DefD := ⟨("_law_take", none), "_law_take", "_law_take", defArgs s_law_take, defBody s_law_take, defScope s_law_take, [], []⟩
def dd_law_one : He.DefD := ⟨("_law_one", none), "_law_one", "_law_one", defArgs s_law_one, defBody s_law_one, defScope s_law_one, [], []⟩
def dd_law_wrong : He.DefD := ⟨("_law_wrong", none), "_law_wrong", "_law_wrong", defArgs s_law_wrong, defBody s_law_wrong, defScope s_law_wrong, [], []⟩
def dd_law_asked : He.DefD := ⟨("_law_asked", none), "_law_asked", "_law_asked", defArgs s_law_asked, defBody s_law_asked, defScope s_law_asked, [], []⟩
def dd_law_refusal : He.DefD := ⟨("_law_refusal", none), "_law_refusal", "_law_refusal", defArgs s_law_refusal, defBody s_law_refusal, defScope s_law_refusal, [], []⟩
def dd_law_due : He.DefD := ⟨("_law_due", none), "_law_due", "_law_due", defArgs s_law_due, defBody s_law_due, defScope s_law_due, [], []⟩
def dd_law_last : He.DefD := ⟨("_law_last", none), "_law_last", "_law_last", defArgs s_law_last, defBody s_law_last, defScope s_law_last, [], []⟩
def dd_law_single_right : He.DefD := ⟨("_law_single_right", none), "_law_single_right", "_law_single_right", defArgs s_law_single_right, defBody s_law_single_right, defScope s_law_single_right, [], []⟩
def dd_law : He.DefD := ⟨("law", none), "law", "law", defArgs s_law, defBody s_law, defScope s_law, [], []⟩
def dd_is_row_tables : He.DefD := ⟨("is_row_tables", none), "is_row", "is_row", defArgs s_is_row0, defBody s_is_row0, defScope s_is_row0, [], []⟩
def dd_is_row_machine : He.DefD := ⟨("is_row_machine", none), "is_row", "is_row", defArgs s_is_row1, defBody s_is_row1, defScope s_is_row1, [], []⟩
def dd_Scene_init : He.DefD := ⟨("Scene", some "__init__"), "__init__", "Scene.__init__", defArgs s_Scene_init, defBody s_Scene_init, defScope s_Scene_init, [], []⟩
def dd_Going_init : He.DefD := ⟨("Going", some "__init__"), "__init__", "Going.__init__", defArgs s_Going_init, defBody s_Going_init, defScope s_Going_init, [], []⟩
def dd_Told_init : He.DefD := ⟨("Told", some "__init__"), "__init__", "Told.__init__", defArgs s_Told_init, defBody s_Told_init, defScope s_Told_init, [], []⟩
def dd_Breaking_init : He.DefD := ⟨("Breaking", some "__init__"), "__init__", "Breaking.__init__", defArgs s_Breaking_init, defBody s_Breaking_init, defScope s_Breaking_init, [], []⟩
def dd_Book_init : He.DefD := ⟨("Book", some "__init__"), "__init__", "Book.__init__", defArgs s_Book_init, defBody s_Book_init, defScope s_Book_init, [], []⟩
def hfn : List He.DefD := [dd_is_number, dd_is_of, dd_forms_of, dd_has_form, dd_bodies_of, dd_walked, dd_want_program, dd_want_choices, dd_first_place, dd_end_place, dd_next_place, dd_going, dd_want_let, dd_gone, dd_play, dd_pair_word, dd_want_table, dd_breaking_of, dd_is_spot, dd_fault_of, dd_want_state, dd_steps_of, dd_least_steps, dd_breaking, dd_told_run, dd_joined, dd_words_of, dd_parting, dd_alike, dd_leads_on, dd_want_code, dd_run, dd_watch, dd_law_pool, dd_law_take, dd_law_one, dd_law_wrong, dd_law_asked, dd_law_refusal, dd_law_due, dd_law_last, dd_law_single_right, dd_law, dd_is_row_tables, dd_is_row_machine, dd_Scene_init, dd_Going_init, dd_Told_init, dd_Breaking_init, dd_Book_init]
def hrt0 : List (Str × Nat) := [(PySem.Str.ofString "is_number", 1), (PySem.Str.ofString "is_of", 1), (PySem.Str.ofString "forms_of", 1), (PySem.Str.ofString "has_form", 1), (PySem.Str.ofString "bodies_of", 1), (PySem.Str.ofString "walked", 1), (PySem.Str.ofString "want_program", 1), (PySem.Str.ofString "want_choices", 1), (PySem.Str.ofString "first_place", 1), (PySem.Str.ofString "end_place", 1), (PySem.Str.ofString "next_place", 1), (PySem.Str.ofString "going", 1), (PySem.Str.ofString "want_let", 1), (PySem.Str.ofString "gone", 1), (PySem.Str.ofString "play", 1), (PySem.Str.ofString "pair_word", 1), (PySem.Str.ofString "want_table", 1), (PySem.Str.ofString "breaking_of", 1), (PySem.Str.ofString "is_spot", 1), (PySem.Str.ofString "fault_of", 1), (PySem.Str.ofString "want_state", 1), (PySem.Str.ofString "steps_of", 1), (PySem.Str.ofString "least_steps", 1), (PySem.Str.ofString "breaking", 1), (PySem.Str.ofString "told_run", 1), (PySem.Str.ofString "joined", 1), (PySem.Str.ofString "words_of", 1), (PySem.Str.ofString "parting", 1), (PySem.Str.ofString "alike", 1), (PySem.Str.ofString "leads_on", 1)]
def hrt1 : List (Str × Nat) := [(PySem.Str.ofString "want_code", 1), (PySem.Str.ofString "run", 1), (PySem.Str.ofString "watch", 1), (PySem.Str.ofString "_law_pool", 1), (PySem.Str.ofString "_law_take", 1), (PySem.Str.ofString "_law_one", 1), (PySem.Str.ofString "_law_wrong", 1), (PySem.Str.ofString "_law_asked", 1), (PySem.Str.ofString "_law_refusal", 1), (PySem.Str.ofString "_law_due", 1), (PySem.Str.ofString "_law_last", 1), (PySem.Str.ofString "_law_single_right", 1), (PySem.Str.ofString "law", 1), (PySem.Str.ofString "is_row_tables", 1), (PySem.Str.ofString "is_row_machine", 1), (PySem.Str.ofString "NAMES", 0), (PySem.Str.ofString "PILES", 0), (PySem.Str.ofString "OWN_WORDS", 0), (PySem.Str.ofString "LETTERS", 0), (PySem.Str.ofString "SPOTS", 0), (PySem.Str.ofString "Refused", 3), (PySem.Str.ofString "BadProgram", 1), (PySem.Str.ofString "BadWord", 1), (PySem.Str.ofString "BadChoices", 1), (PySem.Str.ofString "BadThing", 1), (PySem.Str.ofString "BadPlace", 1), (PySem.Str.ofString "BadCode", 1), (PySem.Str.ofString "BadTable", 1), (PySem.Str.ofString "TooMany", 1), (PySem.Str.ofString "Scene", 3)]
def hrt2 : List (Str × Nat) := [(PySem.Str.ofString "Going", 3), (PySem.Str.ofString "Told", 3), (PySem.Str.ofString "Breaking", 3), (PySem.Str.ofString "Book", 3)]
def hrt : List (Str × Nat) := hrt0 ++ hrt1 ++ hrt2
def hfa0 : List He.Fa := [.glo "is_number", .glo "is_of", .glo "forms_of", .glo "has_form", .glo "bodies_of", .glo "walked", .glo "want_program", .glo "want_choices", .glo "first_place", .glo "end_place", .glo "next_place", .glo "going", .glo "want_let", .glo "gone", .glo "play", .glo "pair_word", .glo "want_table", .glo "breaking_of", .glo "is_spot", .glo "fault_of", .glo "want_state", .glo "steps_of", .glo "least_steps", .glo "breaking", .glo "told_run", .glo "joined", .glo "words_of", .glo "parting", .glo "alike", .glo "leads_on", .glo "want_code", .glo "run", .glo "watch", .glo "_law_pool", .glo "_law_take", .glo "_law_one", .glo "_law_wrong", .glo "_law_asked", .glo "_law_refusal", .glo "_law_due"]
def hfa1 : List He.Fa := [.glo "_law_last", .glo "_law_single_right", .glo "law", .glo "is_row_tables", .glo "is_row_machine", .free "isinstance", .free "int", .free "bool", .free "tuple", .free "str", .free "len", .free "all", .free "enumerate", .free "range", .free "max", .free "any", .free "super", .int "MOST_STATEMENTS" 40, .int "DEEPEST" 6, .int "MOST_CHOICES" 3000, .int "MOST_THINGS" 200, .int "MOST_STATES" 200, .int "MOST_TABLES" 8, .str "LOOP" "loop", .str "EITHER" "either", .str "JUMP" "jump", .str "STOP" "stop", .str "ALL_OF" "and", .str "ONE_OF" "or", .str "LESS" "less", .glo "NAMES", .glo "PILES", .glo "OWN_WORDS", .glo "LETTERS", .glo "SPOTS", .glo "BadProgram", .glo "BadWord", .glo "BadChoices", .glo "BadThing", .glo "BadPlace"]
def hfa2 : List He.Fa := [.glo "BadCode", .glo "BadTable", .glo "TooMany", .glo "Scene", .mkr "Scene", .cls "Scene", .noat "Scene" "events", .noat "Scene" "steps", .noat "Scene" "made", .noat "Scene" "names", .noat "Scene" "piles", .glo "Going", .mkr "Going", .cls "Going", .noat "Going" "scene", .noat "Going" "place", .noat "Going" "bad", .noat "Going" "is_full", .glo "Told", .mkr "Told", .cls "Told", .noat "Told" "moves", .noat "Told" "marks", .glo "Breaking", .mkr "Breaking", .cls "Breaking", .noat "Breaking" "one", .glo "Book", .mkr "Book", .cls "Book"]
def hfa : List He.Fa := hfa0 ++ hfa1 ++ hfa2
def errs8 : List Str := ["BadProgram", "BadWord", "BadChoices", "BadThing", "BadPlace", "BadCode", "BadTable", "TooMany"]
def dv_NAMES : List He.Dv := [.str "a", .str "b", .str "c", .str "d"]
def dv_PILES : List He.Dv := [.str "p", .str "q"]
def dv_OWN_WORDS : List He.Dv := [.str "u", .str "v", .str "w"]
def dv_LETTERS : List He.Dv := [.str "e.putp", .str "e.putq", .str "e.takep", .str "e.takeq", .str "e.end", .str "e.u", .str "e.v", .str "e.w", .str "y.putp", .str "y.putq", .str "y.takep", .str "y.takeq", .str "y.end", .str "y.u", .str "y.v", .str "y.w", .str "y.new"]
def dv_SPOTS : List He.Dv := [.non, .str "a", .str "b", .str "c", .str "d", .str "p", .str "q", .str "x"]
def exB (K : PySem.W.Frag) : Bool := refTB K PySem.Challenge.pw_anytwo_k65_which_of_two_wrong_things_is.main.file (He.ga K "Refused") (He.ma K (He.ga K "Refused") "__init__") && ((errs8.all fun c => refCB K (He.ga K "Refused") (He.ma K (He.ga K "Refused") "__init__") (He.ga K c)) && ((He.tupB K "NAMES" dv_NAMES && (He.tupB K "PILES" dv_PILES && (He.tupB K "OWN_WORDS" dv_OWN_WORDS && (He.tupB K "LETTERS" dv_LETTERS && (He.tupB K "SPOTS" dv_SPOTS && true))))) &&
  ((errs7.all fun c => errs7.all fun c' => decide (PySem.W.exmOne K (.ref (He.ga K c)) (.ref (He.ga K c')) = some (decide (c = c')))) && (errs7.all fun c => L2.xfB K (He.ga K c)))))
abbrev AlY : Type := He.AlD × Bool × FnR
def obsY (g : Addr → Option Obj) : AlY := (He.obsD hfa hfn (He.frG g (asY g hrt)), exB (He.frG g (asY g hrt)), fnR (He.frG g (asY g hrt)) (He.ma (He.frG g (asY g hrt)) (He.ga (He.frG g (asY g hrt)) "Refused") "__init__"))
def hookY : PySem.W.Hook where
  α := AlY
  obs := fun s => obsY s.heap.get?
  val := fun _ => (He.valD hfn, true, fnRv)
  says := fun _ h => ∃ K : PySem.W.Frag, K.In h ∧ He.SaysD hfa hfn K ∧ exB K = true ∧ fnR K (He.ma K (He.ga K "Refused") "__init__") = fnRv
  of := fun _ _ e => ⟨_, He.frG_in, congrArg (fun z : AlY => z.1) e, congrArg (fun z : AlY => z.2.1) e, congrArg (fun z : AlY => z.2.2) e⟩
  keeps := fun _ _ _ ⟨K, hK, c⟩ k => ⟨K, PySem.W.Frag.In.keeps hK k, c⟩
theorem obsY_eq {g : Addr → Option Obj} {s : Shared} (h : ∀ a, g a = s.heap.get? a) : obsY g = hookY.obs s := by
  have e : g = s.heap.get? := funext h
  rw [e] <;> rfl
abbrev R : PySem.W.OpenRow := PySem.W.OpenLaw.row PySem.Challenge.rw_anytwo_k65_which_of_two_wrong_things_is
def hob (s : PySem.W.SharedT) : AlY := obsY (HandSHeadRun.getT s)
theorem hob_eq (s : PySem.W.SharedT) : hob s = hookY.obs s.abs := obsY_eq (HandSHeadRun.getT_eq s)
/-- a look at nothing -/
def hookT : PySem.W.Hook where
  α := Unit
  obs := fun _ => ()
  val := fun _ => ()
  says := fun _ _ => True
  of := fun _ _ _ => True.intro
  keeps := fun _ _ _ _ _ => True.intro
noncomputable def whole (w : World) : Option (Shared × PySem.W.SharedT) := HandSHeadRun.wholeF (fun p => HandSHeadRun.stepQ (HandSHeadRun.denQ HandSHeadRun.tabQ) p w) HandSHeadRun.fenceQ 20000 R.prog
theorem hrunT (w : World) : HandSHeadRun.RunEqI R (PySem.W.view R.prog [160]) hookT (fun _ => ()) 20000 nms w := by
  unfold HandSHeadRun.RunEqI
  kernel_rfl
theorem hrunV (w : World) : (whole w).map (fun x => hob x.2) = some (hookY.val w) := by
  kernel_rfl
theorem map_two {α β γ δ : Type} {o : Option α} {f : α → β} {g : α → γ} {k : α → δ} {b : β} {c : γ} {u : Unit} {d : δ} (h1 : o.map (fun x => (f x, g x, ())) = some (b, c, u)) (h2 : o.map k = some d) : o.map (fun x => (f x, g x, k x)) = some (b, c, d) := by
  cases o with
  | none => cases h2
  | some x =>
    have e1 : (f x, g x, ()) = (b, c, u) := Option.some.inj h1
    have e2 : k x = d := Option.some.inj h2
    rw [Prod.mk.injEq, Prod.mk.injEq] at e1
    show some (f x, g x, k x) = some (b, c, d)
    rw [e1.1, e1.2.1, e2]
theorem hrun (w : World) : HandSHeadRun.RunEqI R (PySem.W.view R.prog [160]) hookY hob 20000 nms w := map_two (hrunT w) (hrunV w)
end An
namespace An
open PySem PySem.Spec PyProof.Rows L2
local macro_rules | `(tactic| walk_at "rd") => `(tactic| simp only [tSeq, tIfS, tRet, tRetN, tAndV, tOrV, tNotV, tCB, tCons, tVar, tC, tNil, rIsD, L2.start, tAnd, tOr, tNot, tB, tTest, tOp, tIf, tChain, tAsg, gName, gNil, gCons, tDrop, tCall, tNext, tFld, sFld, tRaiseR, tMkR, tSl, tPart, tNoPart, tBM, iTup, iList, iEnumT, tYes, tNever, cxOf, wipe, tPar, tPar3, tTup_eq, tLst_eq, rEq_str, rEq_int, rEq_bl, rNe_str, rNe_int, rI0_int, decide_eq_true_eq, Bool.not_eq_true',
  List.map_cons, List.map_nil, List.cons_append, List.nil_append, List.append_nil, List.getElem?_cons_zero, List.getElem?_cons_succ, Option.some.injEq, exists_eq_left', exists_eq_left, List.cons.injEq, and_true, true_and, List.set_cons_zero, List.set_cons_succ, V.bl.injEq, V.int.injEq, V.str.injEq, V.ref.injEq, V.ty.injEq, List.replicate, List.length_cons, List.length_nil, Nat.zero_add, Nat.reduceAdd, Nat.reduceSub, ite_true, ite_false, Bool.false_eq_true, if_false, if_true])
section
variable {P : Program} {w : World} {K : PySem.W.Frag} {mg : Str → Option Value} {base : Heap}

def isNum : PyData → Bool
  | .int _ => true
  | _ => false
def spIsNumber (K : PySem.W.Frag) : Sp := fun vs H Q _ => ∃ x d, vs = [x] ∧ Dp K H x d ∧ Q (.bl (isNum d)) H
theorem H_is_number (T : Tx P K mg) : Has P w K mg base 1 "is_number" ["thing"] (spIsNumber K) := by
  refine T.d_is_number.has sc_is_number (fun _ _ _ _ _ _ us hl => match us, hl with | [_], _ => rfl) (fun vs H Q E h => by obtain ⟨x, d, rfl, _⟩ := h; rfl) (fun f cdv A outer s H vs Q E hr h => ⟨_, (pss_one (ps_ret (pe_and (pe_isD (K := K) (S := "int") (by decide) T.f_isinstance T.f_int (pv 0) (by decide +kernel)) (pe_one (pe_not (pe_isD (K := K) (S := "bool") (by decide) T.f_isinstance T.f_bool (pv 0) (by decide +kernel))))))), ?_⟩)
  obtain ⟨x, d, rfl, hd, q⟩ := h
  walk_at "rd"
  refine ⟨x, d, rfl, hd, ?_⟩
  cases d <;> simp [isD] <;> first | exact q | exact ⟨_, hd, q⟩
/-! texts -/
def txtD (ss : List Str) : PyData := .tuple (ss.map .str)
def isOf (d : PyData) (ss : List Str) : Bool := match d with
  | .str z => ss.contains z
  | _ => false
theorem dp_txts {H : Hp} {v : V} {ss : List Str} (h : Dp K H v (txtD ss)) : ∃ a, v = .ref a ∧ SqT K H a (ss.map V.str) := by
  obtain ⟨a, xs, rfl, hs, ha⟩ := dp_tup h
  refine ⟨a, rfl, ?_⟩
  have e := ha.flat (fun d hd => by obtain ⟨x, _, rfl⟩ := List.mem_map.mp hd; exact ⟨x, rfl⟩)
  rw [List.map_map] at e
  rw [e] at hs
  exact hs
theorem txts_dp {H : Hp} {a : Addr} {ss : List Str} (h : SqT K H a (ss.map V.str)) : Dp K H (.ref a) (txtD ss) := by
  refine .tup h ?_
  clear h
  induction ss with
  | nil => exact .nil
  | cons s ss ih => exact .cons (.str s) ih
theorem inV_txts (z : Str) : ∀ ss : List Str, inV (.str z) (ss.map V.str) = ss.contains z
  | [] => rfl
  | s :: ss => by
    have ih := inV_txts z ss
    unfold inV at ih ⊢
    rw [List.map_cons, List.any_cons, ih, List.contains_cons]
    show ((s == z) || _) = _
    rw [show (s == z) = (z == s) from Bool.eq_iff_iff.mpr ⟨fun h => by simpa using (by simpa using h : s = z).symm, fun h => by simpa using (by simpa using h : z = s).symm⟩]
theorem flat_txts : ∀ ss : List Str, (ss.map V.str).all flatV = true
  | [] => rfl
  | s :: ss => by
    rw [List.map_cons, List.all_cons, flat_txts ss]
    rfl
def spIsOf (K : PySem.W.Frag) : Sp := fun vs H Q _ => ∃ x y d ss, vs = [x, y] ∧ Dp K H x d ∧ Dp K H y (txtD ss) ∧ Q (.bl (isOf d ss)) H
theorem H_is_of (T : Tx P K mg) : Has P w K mg base 1 "is_of" ["thing", "some"] (spIsOf K) := by
  refine T.d_is_of.has sc_is_of (fun _ _ _ _ _ _ us hl => match us, hl with | [_, _], _ => rfl) (fun vs H Q E h => by obtain ⟨x, y, d, ss, rfl, _⟩ := h; rfl) (fun f cdv A outer s H vs Q E hr h => ⟨_, (pss_one (ps_ret (pe_and (pe_isD (K := K) (S := "str") (by decide) T.f_isinstance T.f_str (pv 0) (by decide +kernel)) (pe_one (pe_cmpR (op_inK (K := K)) (pv 0) (pv 1) rfl))))), ?_⟩)
  obtain ⟨x, y, d, ss, rfl, hd, hs, q⟩ := h
  walk_at "rd"
  refine ⟨x, d, rfl, hd, ?_⟩
  cases d with
  | str z =>
    rw [if_pos (by simp [isD])]
    obtain ⟨a, rfl, hS⟩ := dp_txts hs
    cases hd
    refine ⟨a, _, rfl, .inr hS, rfl, flat_txts ss, ?_⟩
    rw [inV_txts]
    exact q
  | _ => rw [if_neg (by simp [isD])]; exact q

end
end An
namespace An
open PySem PySem.Spec PyProof.Rows L2
local macro_rules | `(tactic| walk_at "rd") => `(tactic| simp only [tSeq, tIfS, tRet, tRetN, tAndV, tOrV, tNotV, tCB, tCons, tVar, tC, tNil, rIsD, L2.start, tAnd, tOr, tNot, tB, tTest, tOp, tIf, tChain, tAsg, gName, gNil, gCons, tDrop, tCall, tNext, tFld, sFld, tRaiseR, tMkR, tSl, tPart, tNoPart, tBM, iTup, iList, iEnumT, tYes, tNever, cxOf, wipe, tPar, tPar3, tTup_eq, tLst_eq, rEq_str, rEq_int, rEq_bl, rNe_str, rNe_int, rI0_int, decide_eq_true_eq, Bool.not_eq_true',
  List.map_cons, List.map_nil, List.cons_append, List.nil_append, List.append_nil, List.getElem?_cons_zero, List.getElem?_cons_succ, Option.some.injEq, exists_eq_left', exists_eq_left, List.cons.injEq, and_true, true_and, List.set_cons_zero, List.set_cons_succ, V.bl.injEq, V.int.injEq, V.str.injEq, V.ref.injEq, V.ty.injEq, List.replicate, List.length_cons, List.length_nil, Nat.zero_add, Nat.reduceAdd, Nat.reduceSub, ite_true, ite_false, Bool.false_eq_true, if_false, if_true])
section
variable {P : Program} {w : World} {K : PySem.W.Frag} {mg : Str → Option Value} {base : Heap}

abbrev namesL : List Str := ["a", "b", "c", "d"]
abbrev pilesL : List Str := ["p", "q"]
abbrev ownL : List Str := ["u", "v", "w"]
def formsL (z : Str) : Option (List (List Str)) :=
  if (["new", "end"] : List Str).contains z = true then some [namesL] else if z = "put" then some [namesL, pilesL] else if z = "take" then some [pilesL, namesL] else if z = "move" then some [namesL, namesL] else if z = "do" then some [ownL, namesL] else none
def formsD (z : Str) : PyData := match formsL z with
  | none => .none
  | some fs => .tuple (fs.map txtD)
def spFormsOf (K : PySem.W.Frag) : Sp := fun vs H Q _ => ∃ z, vs = [.str z] ∧ QD K H (formsD z) Q
theorem dpN (T : Tx P K mg) (H : Hp) : Dp K H (.ref (He.ga K "NAMES")) (txtD namesL) := txts_dp (T.t_NAMES H)
theorem dpP (T : Tx P K mg) (H : Hp) : Dp K H (.ref (He.ga K "PILES")) (txtD pilesL) := txts_dp (T.t_PILES H)
theorem dpO (T : Tx P K mg) (H : Hp) : Dp K H (.ref (He.ga K "OWN_WORDS")) (txtD ownL) := txts_dp (T.t_OWN_WORDS H)
theorem H_forms_of (T : Tx P K mg) : Has P w K mg base 1 "forms_of" ["word"] (spFormsOf K) := by
  refine T.d_forms_of.has sc_forms_of (fun _ _ _ _ _ _ us hl => match us, hl with | [_], _ => rfl) (fun vs H Q E h => by obtain ⟨z, rfl, _⟩ := h; rfl) (fun f cdv A outer s H vs Q E hr h => ⟨_, (pss_cons (ps_if (pt_cmpR (op_inK (K := K)) (pv 0) (pe_tup (pa_cons pe_str (pa_cons pe_str pa_nil))) rfl) (pss_one (ps_ret (pe_tup (pa_cons (pe_gref T.g_NAMES) pa_nil)))) pss_nil)
  (pss_cons (ps_if (pt_cmpR op_eq (pv 0) pe_str (nomark _)) (pss_one (ps_ret (pe_tup (pa_cons (pe_gref T.g_NAMES) (pa_cons (pe_gref T.g_PILES) pa_nil))))) pss_nil)
  (pss_cons (ps_if (pt_cmpR op_eq (pv 0) pe_str (nomark _)) (pss_one (ps_ret (pe_tup (pa_cons (pe_gref T.g_PILES) (pa_cons (pe_gref T.g_NAMES) pa_nil))))) pss_nil)
  (pss_cons (ps_if (pt_cmpR op_eq (pv 0) pe_str (nomark _)) (pss_one (ps_ret (pe_tup (pa_cons (pe_gref T.g_NAMES) (pa_cons (pe_gref T.g_NAMES) pa_nil))))) pss_nil)
  (pss_one (ps_ret (pe_ifExp (pt_cmpR op_eq (pv 0) pe_str (nomark _)) (pe_tup (pa_cons (pe_gref T.g_OWN_WORDS) (pa_cons (pe_gref T.g_NAMES) pa_nil))) pe_non))))))), ?_⟩)
  obtain ⟨z, rfl, q⟩ := h
  walk_at "rd"
  refine mkT_D (K := K) (.cons (.str "new") (.cons (.str "end") .nil)) (by decide) fun H1 t s1 ht => ?_
  obtain ⟨a, rfl, hS⟩ := dp_txts (ss := ["new", "end"]) ht
  have q1 := QD.mv q s1
  refine ⟨a, _, rfl, .inr hS, rfl, flat_txts _, ?_⟩
  rw [if_neg Bool.false_ne_true]
  refine ⟨_, rfl, ?_⟩
  rw [inV_txts]
  unfold formsD formsL at q1
  by_cases h1 : (["new", "end"] : List Str).contains z = true
  · rw [if_pos h1] at q1 ⊢
    exact mkT_D (.cons (dpN T _) .nil) (by decide) q1
  rw [if_neg h1] at q1 ⊢
  by_cases h2 : z = "put"
  · rw [if_pos h2] at q1 ⊢
    exact mkT_D (.cons (dpN T _) (.cons (dpP T _) .nil)) (by decide) q1
  rw [if_neg h2] at q1 ⊢
  by_cases h3 : z = "take"
  · rw [if_pos h3] at q1 ⊢
    exact mkT_D (.cons (dpP T _) (.cons (dpN T _) .nil)) (by decide) q1
  rw [if_neg h3] at q1 ⊢
  by_cases h4 : z = "move"
  · rw [if_pos h4] at q1 ⊢
    exact mkT_D (.cons (dpN T _) (.cons (dpN T _) .nil)) (by decide) q1
  rw [if_neg h4] at q1 ⊢
  by_cases h5 : z = "do"
  · rw [if_pos h5] at q1 ⊢
    exact mkT_D (.cons (dpO T _) (.cons (dpN T _) .nil)) (by decide) q1
  rw [if_neg h5] at q1 ⊢
  exact q1.now .non

end
end An
namespace An
open PySem PySem.Spec PyProof.Rows L2
local macro_rules | `(tactic| walk_at "rd") => `(tactic| simp only [tSeq, tIfS, tRet, tRetN, tAndV, tOrV, tNotV, tCB, tCons, tVar, tC, tNil, rIsD, L2.start, tAnd, tOr, tNot, tB, tTest, tOp, tIf, tChain, tAsg, gName, gNil, gCons, tDrop, tCall, tNext, tFld, sFld, tRaiseR, tMkR, tSl, tPart, tNoPart, tBM, iTup, iList, iEnumT, tYes, tNever, cxOf, wipe, tPar, tPar3, tTup_eq, tLst_eq, rEq_str, rEq_int, rEq_bl, rNe_str, rNe_int, rI0_int, decide_eq_true_eq, Bool.not_eq_true',
  List.map_cons, List.map_nil, List.cons_append, List.nil_append, List.append_nil, List.getElem?_cons_zero, List.getElem?_cons_succ, Option.some.injEq, exists_eq_left', exists_eq_left, List.cons.injEq, and_true, true_and, List.set_cons_zero, List.set_cons_succ, V.bl.injEq, V.int.injEq, V.str.injEq, V.ref.injEq, V.ty.injEq, List.replicate, List.length_cons, List.length_nil, Nat.zero_add, Nat.reduceAdd, Nat.reduceSub, ite_true, ite_false, Bool.false_eq_true, if_false, if_true])
section
variable {P : Program} {w : World} {K : PySem.W.Frag} {mg : Str → Option Value} {base : Heap}

def isTup : PyData → Bool
  | .tuple _ => true
  | _ => false
/-- a statement by its own form -/
def hasForm : PyData → Bool
  | .tuple (.str z :: r) =>
    if (["loop", "either"] : List Str).contains z = true then decide ((r.length : Int) + 1 = if z = "loop" then 2 else 3) && (r.map isTup).all id
    else match formsL z with
      | none => false
      | some fs => decide (r.length = fs.length) && ((List.range fs.length).map fun i => isOf (r.getD i .none) (fs.getD i [])).all id
  | _ => false
theorem isD_tup (d : PyData) : isD "tuple" d = isTup d := by
  cases d <;> simp [isD, isTup]
theorem cut1 (d : PyData) (r : List PyData) : L2.cutD (d :: r) (some 1) none = r := by
  simp [L2.cutD, HT.sIx]
theorem forms_few {z : Str} {fs : List (List Str)} (h : formsL z = some fs) : fs.length ≤ 2 := by
  unfold formsL at h
  repeat' split at h
  all_goals first | (cases h; decide) | cases h
def spHasForm (K : PySem.W.Frag) : Sp := fun vs H Q _ => ∃ x d, vs = [x] ∧ Dp K H x d ∧ okD d ∧ QD K H (.bool (hasForm d)) Q
theorem H_has_form (T : Tx P K mg) : Has P w K mg base 2 "has_form" ["thing"] (spHasForm K) := by
  refine T.d_has_form.has sc_has_form (fun _ _ _ _ _ _ us hl => match us, hl with | [_], _ => rfl) (fun vs H Q E h => by obtain ⟨z, d, rfl, _⟩ := h; rfl) (fun f cdv A outer s H vs Q E hr h => ⟨?t, ?b, ?rd⟩)
  case b =>
    refine' (pss_cons (ps_if (PW.pt (pw_or (pt_not (pt_val (pe_isD (K := K) (S := "tuple") (by decide) T.f_isinstance T.f_tuple (pv 0) (by decide +kernel)))) (pw_or (pt_cmpR (op_eqK (K := K) hr.units) (pv 0) (pe_tup pa_nil) (nomark _)) (pw_or1 (pt_not (pt_val (pe_isD (K := K) (S := "str") (by decide) T.f_isinstance T.f_str (pe_ix (ix_D (K := K)) (pv 0) pe_int (fun _ _ => rfl)) (by decide +kernel)))))))) (pss_one (ps_ret pe_bl)) pss_nil)
  (pss_cons (ps_if (pt_cmpR (op_inK (K := K)) (pe_ix (ix_D (K := K)) (pv 0) pe_int (fun _ _ => rfl)) (pe_tup (pa_cons (pe_gstr T.g_LOOP) (pa_cons (pe_gstr T.g_EITHER) pa_nil))) rfl) (pss_one (ps_ret (pe_and (pe_cmpR op_eq (pe_callB (call_lnD (K := K)) (by rfl) T.f_len PySem.boot_len (pa_cons (pv 0) pa_nil)) (pe_ifExp (pt_cmpR op_eq (pe_ix (ix_D (K := K)) (pv 0) pe_int (fun _ _ => rfl)) (pe_gstr T.g_LOOP) (nomark _)) pe_int pe_int) (nomark _)) (pe_one (pe_callB (cr_allD (K := K) rfl) (by rfl) T.f_all PyProof.Rows.boot_all (pa_cons ?c2 pa_nil)))))) pss_nil)
  (pss_cons (ps_set (i := 1) sc_has_form.nd rfl (Or.inl rfl) (pe_callQ (H_forms_of T) (hr.mono (by decide)) pasX (pa_cons (pe_ix (ix_D (K := K)) (pv 0) pe_int (fun _ _ => rfl)) pa_nil)))
  (pss_cons (ps_if (PW.pt (pw_or (pt_cmpR op_isN (pv 1) pe_non (nomark _)) (pw_or1 (pt_cmpR op_ne (pe_callB (call_lnD (K := K)) (by rfl) T.f_len PySem.boot_len (pa_cons (pv 0) pa_nil)) (pe_op op_add pe_int (pe_callB (call_lnD (K := K)) (by rfl) T.f_len PySem.boot_len (pa_cons (pv 1) pa_nil))) (nomark _))))) (pss_one (ps_ret pe_bl)) pss_nil)
  (pss_one (ps_ret (pe_callB (cr_allD (K := K) rfl) (by rfl) T.f_all PyProof.Rows.boot_all (pa_cons ?c1 pa_nil))))))))
    case c1 => exact (pe_lc (own := [("at", 3), ("form", 4)]) (g := (gTup K 2 (gCons (gName 3) (gCons (gName 4) gNil)))) (tt := tYes) rfl sc_has_form.nd (pi_enumT rfl T.f_enumerate (pa_cons (pv 1) pa_nil)) (blkOk_by (N := N_has_form) (sc := defScope s_has_form) (by decide +kernel)) (fun _ _ _ _ _ => (pg_tup (by rfl) (pgs_cons (pg_name (i := 3) sc_has_form.nd rfl (Or.inl rfl)) (pgs_cons (pg_name (i := 4) sc_has_form.nd rfl (Or.inl rfl)) pgs_nil)))) (fun _ _ _ _ _ => pts_nil) (fun _ _ _ _ _ => (pe_callQ (H_is_of T) (hr.mono (by decide)) passL (pa_cons (pe_ix (ix_D (K := K)) (pv 0) (pe_op op_add (pv 3) pe_int) (fun _ _ => rfl)) (pa_cons (pv 4) pa_nil)))))
    case c2 => exact (pe_lc (own := [("body", 2)]) (g := (gName 2)) (tt := tYes) rfl sc_has_form.nd (pi_tup (pe_slice (sl_D (K := K)) (pv 0) (po_some pe_int) po_none)) (blkOk_by (N := N_has_form) (sc := defScope s_has_form) (by decide +kernel)) (fun _ _ _ _ _ => (pg_name (i := 2) sc_has_form.nd rfl (Or.inl rfl))) (fun _ _ _ _ _ => pts_nil) (fun _ _ _ _ _ => (pe_isD (K := K) (S := "tuple") (by decide) T.f_isinstance T.f_tuple (pv 2) (by decide +kernel))))
  obtain ⟨x, d, rfl, hd, ok, q⟩ := h
  walk_at "rd"
  refine ⟨x, d, rfl, hd, ?_⟩
  cases d with
  | tuple ds =>
    rw [if_neg (by simp [isD])]
    refine mkT_D (K := K) .nil (by decide) fun H1 t s1 ht => ?_
    refine ⟨_, _, hd.mv s1, ht, ok.1, by decide, _, rfl, ?_⟩
    rw [eqv_nil]
    cases ds with
    | nil => exact qb q s1
    | cons d0 r =>
      rw [if_neg (by simp)]
      refine ⟨_, 0, _, rfl, hd.mv s1, rfl, fun v0 hv0 => ⟨_, _, rfl, hv0, ?_⟩⟩
      cases d0 with
      | str z =>
        rw [if_neg (by simp [isD])]
        refine ⟨_, 0, _, rfl, hd.mv s1, rfl, fun v1 hv1 => ?_⟩
        refine mkT_D (K := K) (.cons (.str "loop") (.cons (.str "either") .nil)) (by decide) fun H2 t2 s2 ht2 => ?_
        cases dp_str hv1
        obtain ⟨a2, rfl, hS2⟩ := dp_txts (ss := ["loop", "either"]) ht2
        have s12 := s1.trans s2
        refine ⟨a2, _, rfl, .inr hS2, rfl, flat_txts _, _, rfl, ?_⟩
        rw [if_neg Bool.false_ne_true, inV_txts]
        have hlen := okD_len ok
        rw [List.length_cons] at hlen
        by_cases c : (["loop", "either"] : List Str).contains z = true
        · rw [if_pos c]
          have hF : hasForm (.tuple (.str z :: r)) = (decide ((r.length : Int) + 1 = if z = "loop" then 2 else 3) && (r.map isTup).all id) := if_pos c
          have key : ∀ H3, Same H H3 → decide ((r.length : Int) + 1 = if z = "loop" then 2 else 3) = true → tLc (iTup K (tSl (rSlD K) (tVar 0) (tPart (tC (V.int 1))) tNoPart)) (gName 2) tYes
              (tCB (rIsD K "tuple") (tCons (tVar 2) (tCons (tC (V.ty "tuple")) tNil))) [2] [some x, none, none, none, none] H3 fun x H1 => rAllD K [x] H1 Q := fun H3 s3 hc => by
            rw [hF, hc, Bool.true_and] at q
            refine ⟨_, rfl, _, rfl, _, hd.mv s3, fun H4 y s4 hy => ?_⟩
            rw [cut1] at hy
            obtain ⟨a, xs, rfl, hS, hA⟩ := dp_tup hy
            refine ⟨a, rfl, ⟨_, hS⟩, fun D hD => lcD (K := K) walk_tup (fun i => .bool (isTup (r.getD i .none))) (by rw [hA.length]; omega) hD (fun _ _ => rfl) (fun H' s => s.tup hS) ?_ ?_⟩
            · rintro i u H5 H6 C hi s5 ⟨rfl, hu⟩ k
              walk_at "rd"
              obtain ⟨d, hdi, hdv⟩ := hA.get' hu
              refine ⟨u, d, rfl, hdv.mv s5, k _ _ (Same.refl _) ?_⟩
              rw [List.getD_eq_getElem?_getD, hdi, isD_tup]
              exact .bl _
            · intro H' s' hp
              rw [hA.length, range_get (fun d => .bool (isTup d))] at hp
              refine ⟨_, r.map isTup, rfl, ?_, qb q ((s3.trans s4).trans s')⟩
              rw [List.map_map]
              exact hp
          refine ⟨x, _, rfl, .inl (hd.mv s12), _, 0, _, rfl, hd.mv s12, rfl, fun v3 hv3 => ?_⟩
          cases dp_str hv3
          rw [List.length_cons, show ((r.length + 1 : Nat) : Int) = (r.length : Int) + 1 by omega]
          walk_at "rd"
          by_cases e1 : z = "loop"
          · rw [if_pos e1]
            rw [if_pos e1] at key hF
            by_cases e2 : (r.length : Int) + 1 = 2
            · rw [if_pos e2]
              exact key _ s12 (decide_eq_true e2)
            · rw [if_neg e2]
              rw [hF, decide_eq_false e2, Bool.false_and] at q
              exact qb q s12
          · rw [if_neg e1]
            rw [if_neg e1] at key hF
            by_cases e2 : (r.length : Int) + 1 = 3
            · rw [if_pos e2]
              exact key _ s12 (decide_eq_true e2)
            · rw [if_neg e2]
              rw [hF, decide_eq_false e2, Bool.false_and] at q
              exact qb q s12
        · rw [if_neg c]
          have hF : hasForm (.tuple (.str z :: r)) = (match formsL z with
              | none => false
              | some fs => decide (r.length = fs.length) && ((List.range fs.length).map fun i => isOf (r.getD i .none) (fs.getD i [])).all id) := if_neg c
          refine ⟨_, 0, _, rfl, hd.mv s12, rfl, fun v3 hv3 => ?_⟩
          cases dp_str hv3
          refine ⟨z, rfl, fun H3 v s3 hv => ?_⟩
          have s13 := s12.trans s3
          unfold formsD at hv
          dsimp only
          cases hz : formsL z with
          | none =>
            rw [hz] at hv hF
            rw [if_pos (dp_none hv)]
            rw [hF] at q
            exact qb q s13
          | some fs =>
            rw [hz] at hv hF
            dsimp only at hv hF
            obtain ⟨a, xs, rfl, hS, hA⟩ := dp_tup hv
            rw [if_neg (fun z => by cases z)]
            have hfl : fs.length ≤ 2 := forms_few hz
            refine ⟨x, _, rfl, .inl (hd.mv s13), _, _, rfl, .inl hv, 1, _, rfl, rfl, ?_⟩
            rw [List.length_cons, List.length_map]
            walk_at "rd"
            by_cases e2 : r.length = fs.length
            · rw [decide_eq_true e2, Bool.true_and] at hF
              rw [if_neg (by simp; omega)]
              rw [hF] at q
              refine ⟨_, rfl, a, xs, rfl, hS, fun D hD => lcD (K := K) walk_enumT (fun i => .bool (isOf (r.getD i .none) (fs.getD i []))) (by rw [hA.length, List.length_map]; omega) hD (fun _ _ => rfl) (fun H' s => s.tup hS) ?_ ?_⟩
              · rintro i u H5 H6 C hi s5 ⟨t, n, y, rfl, ht, rfl, e1, hy⟩ k
                cases Option.some.inj e1
                have s6 : Same H5 (upd H5 t (.tup [.int (i : Nat), y])) := Same.new ht
                refine ⟨t, _, rfl, .inl (.inl upd_same), rfl, _, _, rfl, _, _, rfl, rfl, rfl, ?_⟩
                obtain ⟨d, hdi, hdv⟩ := hA.get' hy
                rw [List.getElem?_map] at hdi
                cases hfi : fs[i]? with
                | none => rw [hfi] at hdi; cases hdi
                | some g =>
                  rw [hfi] at hdi
                  cases Option.some.inj hdi
                  have hif : i < fs.length := (List.getElem?_eq_some_iff.mp hfi).1
                  have hri : r[i]? = some (r.getD i .none) := by
                    rw [List.getD_eq_getElem?_getD, List.getElem?_eq_getElem (by omega)]
                    rfl
                  walk_at "rd"
                  refine ⟨_, i + 1, _, by simp, hd.mv (s13.trans (s5.trans s6)), hri, fun v4 hv4 => ⟨v4, y, _, g, rfl, hv4, hdv.mv (s5.trans s6), ?_⟩⟩
                  refine k _ _ s6 ?_
                  rw [List.getD_eq_getElem?_getD (l := fs), hfi]
                  exact .bl _
              · intro H' s' hp
                rw [hA.length, List.length_map] at hp
                refine ⟨_, (List.range fs.length).map fun i => isOf (r.getD i .none) (fs.getD i []), rfl, ?_, qb q (s13.trans s')⟩
                rw [List.map_map]
                exact hp
            · rw [decide_eq_false e2, Bool.false_and] at hF
              rw [hF] at q
              rw [if_pos (by simp; omega)]
              exact qb q s13
      | _ => exact qb q s1
  | _ => exact qb q (Same.refl H)

end
end An
namespace An
open PySem PySem.Spec PyProof.Rows L2
local macro_rules | `(tactic| walk_at "rd") => `(tactic| simp only [tSeq, tIfS, tRet, tRetN, tAndV, tOrV, tNotV, tCB, tCons, tVar, tC, tNil, rIsD, L2.start, tAnd, tOr, tNot, tB, tTest, tOp, tIf, tChain, tAsg, gName, gNil, gCons, tDrop, tCall, tNext, tFld, sFld, tRaiseR, tMkR, tSl, tPart, tNoPart, tBM, iTup, iList, iEnumT, tYes, tNever, cxOf, wipe, tPar, tPar3, tTup_eq, tLst_eq, rEq_str, rEq_int, rEq_bl, rNe_str, rNe_int, rI0_int, decide_eq_true_eq, Bool.not_eq_true',
  List.map_cons, List.map_nil, List.cons_append, List.nil_append, List.append_nil, List.getElem?_cons_zero, List.getElem?_cons_succ, Option.some.injEq, exists_eq_left', exists_eq_left, List.cons.injEq, and_true, true_and, List.set_cons_zero, List.set_cons_succ, V.bl.injEq, V.int.injEq, V.str.injEq, V.ref.injEq, V.ty.injEq, List.replicate, List.length_cons, List.length_nil, Nat.zero_add, Nat.reduceAdd, Nat.reduceSub, ite_true, ite_false, Bool.false_eq_true, if_false, if_true])
section
variable {P : Program} {w : World} {K : PySem.W.Frag} {mg : Str → Option Value} {base : Heap}

/-- a comprehension's own part: D its list -/
def LC (J : It) (g : TG) (tt : TT) (te : TE) (vs : List Nat) (σ : L2.St) (H1 : Hp) (Q : VK) : Prop := ∀ D, H1 D = none → ∃ W : Nat → Nat → Hp → Prop, (∃ m, W 0 m (upd H1 D (.lst []))) ∧ ∀ i m H, W i m H →
  (J.stop i H ∧ Q (.ref D) H) ∨ (J.go i H ∧ ∃ Nx : Hp → Prop, (∀ H', Nx H' → ∃ m', m' < m ∧ W (i + 1) m' H') ∧ ∀ x H', J.yld i H x H' → g x (wipe σ vs) H' fun σ2 H2 => wipe σ2 vs = wipe σ vs ∧ tt σ2 H2 fun b H3 =>
    if b = true then te σ2 H3 fun y H4 => ∃ acc, H4 D = some (.lst acc) ∧ acc.length < sizeLine ∧ Nx (upd H4 D (.lst (acc ++ [y]))) else Nx H3)
theorem tLc_tup {t : TE} {g : TG} {tt : TT} {te : TE} {vs : List Nat} {σ : L2.St} {H : Hp} {Q : VK} : tLc (iTup K t) g tt te vs σ H Q = t σ H fun x H1 => ∃ a, x = .ref a ∧ (∃ ys, SqT K H1 a ys) ∧ LC (Itt K a) g tt te vs σ H1 Q := rfl
theorem tLc_lst {t : TE} {g : TG} {tt : TT} {te : TE} {vs : List Nat} {σ : L2.St} {H : Hp} {Q : VK} : tLc (iList K t) g tt te vs σ H Q = t σ H fun x H1 => ∃ a, x = .ref a ∧ (∃ ys, SqL K H1 a ys) ∧ LC (Itl K a) g tt te vs σ H1 Q := rfl
theorem tLc_enumT {t : TA} {g : TG} {tt : TT} {te : TE} {vs : List Nat} {σ : L2.St} {H : Hp} {Q : VK} : tLc (iEnumT K t) g tt te vs σ H Q = t σ H fun xs H1 => ∃ a ys, xs = [.ref a] ∧ SqT K H1 a ys ∧ LC (Iut K a) g tt te vs σ H1 Q := rfl
def tupOf : PyData → List PyData
  | .tuple ds => ds
  | _ => []
theorem tup_of {d : PyData} (h : isTup d = true) : d = .tuple (tupOf d) := by
  cases d <;> simp_all [isTup, tupOf]
def bodiesT (z : Str) (r pl : List PyData) : List (List PyData × List PyData) :=
  if z = "loop" then [(pl, tupOf (r.getD 0 .none))] else if z = "either" then [(pl ++ [.int 0], tupOf (r.getD 0 .none)), (pl ++ [.int 1], tupOf (r.getD 1 .none))] else []
def pairD (p : List PyData × List PyData) : PyData := .tuple [.tuple p.1, .tuple p.2]
theorem form_loop {r : List PyData} (h : hasForm (.tuple (.str "loop" :: r)) = true) : ∃ b, r = [.tuple b] := by
  have e : hasForm (.tuple (.str "loop" :: r)) = (decide ((r.length : Int) + 1 = 2) && (r.map isTup).all id) := rfl
  rw [e, Bool.and_eq_true, decide_eq_true_eq] at h
  match r, h with
  | [d], h =>
    have := h.2
    simp at this
    exact ⟨_, by rw [← tup_of this]⟩
  | [], h => exact absurd h.1 (by simp)
  | _ :: _ :: _, h => exact absurd h.1 (by simp; omega)
theorem form_either {r : List PyData} (h : hasForm (.tuple (.str "either" :: r)) = true) : ∃ b c, r = [.tuple b, .tuple c] := by
  have e : hasForm (.tuple (.str "either" :: r)) = (decide ((r.length : Int) + 1 = 3) && (r.map isTup).all id) := rfl
  rw [e, Bool.and_eq_true, decide_eq_true_eq] at h
  match r, h with
  | [d, d'], h =>
    have := h.2
    simp at this
    exact ⟨_, _, by rw [tup_of this.1, tup_of this.2]⟩
  | [], h => exact absurd h.1 (by simp)
  | [_], h => exact absurd h.1 (by simp)
  | _ :: _ :: _ :: _, h => exact absurd h.1 (by simp; omega)
def spBodiesOf (K : PySem.W.Frag) : Sp := fun vs H Q _ => ∃ x y z r pl, vs = [x, y] ∧ Dp K H x (.tuple (.str z :: r)) ∧ Dp K H y (.tuple pl) ∧ noL (.tuple (.str z :: r)) = true ∧ noLs pl = true ∧ pl.length ≤ 100 ∧ hasForm (.tuple (.str z :: r)) = true ∧
  ∀ H' p, Same H H' → H p = none → Dp K H' (.ref p) (.list ((bodiesT z r pl).map pairD)) → Q (.ref p) H'
theorem Same.none {H H' : Hp} {p : Addr} (s : Same H H') (h : H' p = none) : H p = none := by
  cases e : H p with
  | none => rfl
  | some u => rw [s _ _ e] at h; cases h
theorem H_bodies_of (T : Tx P K mg) : Has P w K mg base 1 "bodies_of" ["statement", "place"] (spBodiesOf K) := by
  refine T.d_bodies_of.has sc_bodies_of (fun _ _ _ _ _ _ us hl => match us, hl with | [_, _], _ => rfl) (fun vs H Q E h => by obtain ⟨x, y, z, r, pl, rfl, _⟩ := h; rfl) (fun f cdv A outer s H vs Q E hr h => ⟨?t, ?b, ?rd⟩)
  case b =>
    refine' (pss_cons (ps_if (pt_cmpR op_eq (pe_ix (ix_D (K := K)) (pv 0) pe_int (fun _ _ => rfl)) (pe_gstr T.g_LOOP) (nomark _)) (pss_one (ps_ret (pe_lst (pa_cons (pe_tup (pa_cons (pv 1) (pa_cons (pe_ix (ix_D (K := K)) (pv 0) pe_int (fun _ _ => rfl)) pa_nil))) pa_nil)))) pss_nil)
  (pss_one (ps_ret (pe_ifExp (pt_cmpR op_eq (pe_ix (ix_D (K := K)) (pv 0) pe_int (fun _ _ => rfl)) (pe_gstr T.g_EITHER) (nomark _)) ?c1 (pe_lst pa_nil)))))
    case c1 => exact (pe_lc (own := [("way", 2)]) (g := (gName 2)) (tt := tYes) rfl sc_bodies_of.nd (pi_tup (pe_tup (pa_cons pe_int (pa_cons pe_int pa_nil)))) (blkOk_by (N := N_bodies_of) (sc := defScope s_bodies_of) (by decide +kernel)) (fun _ _ _ _ _ => (pg_name (i := 2) sc_bodies_of.nd rfl (Or.inl rfl))) (fun _ _ _ _ _ => pts_nil) (fun _ _ _ _ _ => (pe_tup (pa_cons (pe_op (op_catD (K := K)) (pv 1) (pe_tup (pa_cons (pv 2) pa_nil))) (pa_cons (pe_ix (ix_D (K := K)) (pv 0) (pe_op op_add (pv 2) pe_int) (fun _ _ => rfl)) pa_nil)))))
  case rd =>
  obtain ⟨x, y, z, r, pl, rfl, hx, hy, nx, np, hl, hf, q⟩ := h
  walk_at "rd"
  refine ⟨_, 0, _, rfl, hx, rfl, fun v0 hv0 => ?_⟩
  cases dp_str hv0
  rw [rEq_str]
  refine ⟨_, rfl, ?_⟩
  by_cases e1 : z = "loop"
  · subst e1
    obtain ⟨b, rfl⟩ := form_loop hf
    rw [if_pos (by decide)]
    refine ⟨_, 1, _, rfl, hx, rfl, fun v1 hv1 => ?_⟩
    refine mkT_D (.cons hy (.cons hv1 .nil)) (by simp) fun H1 t s1 ht => ?_
    exact mkL_D (.cons ht .nil) (by simp) fun p hp hd => q _ _ (s1.trans (Same.new hp)) (Same.none s1 hp) hd
  · rw [if_neg (by simpa using e1)]
    refine ⟨_, 0, _, rfl, hx, rfl, fun v0 hv0 => ?_⟩
    cases dp_str hv0
    rw [rEq_str]
    refine ⟨_, rfl, ?_⟩
    by_cases e2 : z = "either"
    · subst e2
      obtain ⟨b, c, rfl⟩ := form_either hf
      rw [if_pos (by decide)]
      rw [tLc_tup]
      walk_at "rd"
      refine mkT_D (K := K) (ds := [.int 0, .int 1]) (.cons (.int 0) (.cons (.int 1) .nil)) (by decide) fun H1 t s1 ht => ?_
      obtain ⟨a, xs, rfl, hS, hA⟩ := dp_tup ht
      have hl2 : xs.length = 2 := hA.length
      refine ⟨a, rfl, ⟨_, hS⟩, fun D hD => lcD (K := K) walk_tup (fun i => pairD (pl ++ [.int (i : Nat)], tupOf ([PyData.tuple b, .tuple c].getD i .none))) (by omega) hD (fun i hi => ?_) (fun H' s => s.tup hS) ?_ ?_⟩
      · rw [hl2] at hi
        rw [noL, noLs_all] at nx
        have nb := nx (.tuple b) (by simp)
        have nc := nx (.tuple c) (by simp)
        rw [noL] at nb nc
        have h1 : noLs (pl ++ [.int (i : Nat)]) = true := noLs_all.mpr fun d hd => by
          rcases List.mem_append.mp hd with h | h
          · exact noLs_all.mp np d h
          · simp at h
            subst h
            rfl
        have h2 : noLs (tupOf ([PyData.tuple b, .tuple c].getD i .none)) = true := by
          match i, hi with
          | 0, _ => exact nb
          | 1, _ => exact nc
        rw [pairD, noL, noLs, noL, h1, noLs, noL, h2]
        rfl
      · rintro i u H5 H6 C hi s5 ⟨rfl, hu⟩ k
        walk_at "rd"
        obtain ⟨d, hdi, hdv⟩ := hA.get' hu
        have hd : d = .int (i : Nat) := by
          rw [hl2] at hi
          match i, hi, hdi with
          | 0, _, h => cases h; rfl
          | 1, _, h => cases h; rfl
        subst hd
        cases dp_int hdv
        refine mkT_D (K := K) (.cons (.int _) .nil) (by simp) fun H7 t s7 ht7 => ?_
        refine ⟨_, _, hy.mv (s1.trans (s5.trans s7)), ht7, by simp; omega, fun H8 v s8 hv => ?_⟩
        dsimp only
        rw [rI0_int]
        have hgi : [PyData.str "either", .tuple b, .tuple c][i + 1]? = some ([PyData.tuple b, .tuple c].getD i .none) := by
          rw [hl2] at hi
          match i, hi with
          | 0, _ => rfl
          | 1, _ => rfl
        have ht9 : [PyData.tuple b, .tuple c].getD i .none = .tuple (tupOf ([PyData.tuple b, .tuple c].getD i .none)) := by
          rw [hl2] at hi
          match i, hi with
          | 0, _ => rfl
          | 1, _ => rfl
        refine ⟨_, i + 1, _, by simp, hx.mv (s1.trans (s5.trans (s7.trans s8))), hgi, fun v9 hv9 => ?_⟩
        rw [ht9] at hv9
        exact mkT_D (.cons hv (.cons hv9 .nil)) (by simp) fun H10 t10 s10 ht10 => k _ _ (s7.trans (s8.trans s10)) ht10
      · intro H' s' hp
        rw [hl2] at hp
        exact q _ _ (s1.trans s') (Same.none s1 hD) hp
    · rw [if_neg (by simpa using e2)]
      refine mkL_D (K := K) .nil (by decide) fun p hp hd => ?_
      have : bodiesT z r pl = [] := by rw [bodiesT, if_neg e1, if_neg e2]
      rw [this] at q
      exact q _ _ (Same.new hp) hp hd

end
end An
namespace An
open PySem PySem.Spec PyProof.Rows L2
local macro_rules | `(tactic| walk_at "rd") => `(tactic| simp only [tSeq, tIfS, tRet, tRetN, tAndV, tOrV, tNotV, tCB, tCons, tVar, tC, tNil, rIsD, L2.start, tAnd, tOr, tNot, tB, tTest, tOp, tIf, tChain, tAsg, gName, gNil, gCons, tDrop, tCall, tNext, tFld, sFld, tRaiseR, tMkR, tSl, tPart, tNoPart, tBM, iTup, iList, iEnumT, tYes, tNever, cxOf, wipe, tPar, tPar3, tTup_eq, tLst_eq, rEq_str, rEq_int, rEq_bl, rNe_str, rNe_int, rI0_int, decide_eq_true_eq, Bool.not_eq_true',
  List.map_cons, List.map_nil, List.cons_append, List.nil_append, List.append_nil, List.getElem?_cons_zero, List.getElem?_cons_succ, Option.some.injEq, exists_eq_left', exists_eq_left, List.cons.injEq, and_true, true_and, List.set_cons_zero, List.set_cons_succ, V.bl.injEq, V.int.injEq, V.str.injEq, V.ref.injEq, V.ty.injEq, List.replicate, List.length_cons, List.length_nil, Nat.zero_add, Nat.reduceAdd, Nat.reduceSub, ite_true, ite_false, Bool.false_eq_true, if_false, if_true])
section
variable {P : Program} {w : World} {K : PySem.W.Frag} {mg : Str → Option Value} {base : Heap}

abbrev Wz := Except (Str × PyData) (List PyData)
def bodiesD (st : PyData) (pl : List PyData) : List (List PyData × List PyData) := match st with
  | .tuple (.str z :: r) => bodiesT z r pl
  | _ => []
def bindW (z : Wz) (f : List PyData → Wz) : Wz := match z with
  | .ok fd => f fd
  | .error e => .error e
theorem bindW_assoc {z : Wz} {f g : List PyData → Wz} : bindW (bindW z f) g = bindW z fun fd => bindW (f fd) g := by
  cases z <;> rfl
def wkS (rec : List PyData → List PyData → List PyData → Wz) : List (List PyData × List PyData) → List PyData → Wz
  | [], fd => .ok fd
  | p :: t, fd => bindW (rec p.2 p.1 fd) fun fd' => wkS rec t fd'
def wkL (rec : List PyData → List PyData → List PyData → Wz) (ahead : List PyData) : Nat → List PyData → List PyData → Wz
  | _, [], fd => .ok fd
  | i, st :: t, fd =>
    if fd.length = 40 then .error ("TooMany", .int 41) else
    if hasForm st = true then bindW (wkS rec (bodiesD st (ahead ++ [.int (i : Nat)])) (fd ++ [.tuple (ahead ++ [.int (i : Nat)])])) fun fd' => wkL rec ahead (i + 1) t fd'
    else .error ("BadProgram", .tuple (ahead ++ [.int (i : Nat)]))
/-- walked, n levels above the deepest -/
def wk : Nat → List PyData → List PyData → List PyData → Wz
  | 0, _, _, _ => .error ("TooMany", .int 7)
  | n + 1, body, ahead, fd => wkL (wk n) ahead 0 body fd
def SameB (l : Addr) (H H' : Hp) : Prop := ∀ b u, b ≠ l → H b = some u → H' b = some u
theorem SameB.refl {l : Addr} (H : Hp) : SameB l H H := fun _ _ _ e => e
theorem SameB.trans {l : Addr} {H1 H2 H3 : Hp} (a : SameB l H1 H2) (b : SameB l H2 H3) : SameB l H1 H3 := fun c u n e => b c u n (a c u n e)
theorem SameB.of {l : Addr} {H1 H2 : Hp} (s : Same H1 H2) : SameB l H1 H2 := fun c u _ e => s c u e
theorem SameB.upd {l : Addr} {H : Hp} {o : HO} : SameB l H (upd H l o) := fun c u n e => by
  rw [upd_ne n]
  exact e
section
variable {H H' : Hp} {l : Addr} {ys : List V}
theorem SameB.ne (e : H l = some (.lst ys)) {a : Addr} {u : HO} (h : H a = some u) (n : ∀ q, u ≠ HO.lst q) : a ≠ l := fun z => by
  rw [z, e] at h
  exact n ys (Option.some.inj h).symm
theorem SqT.sb (s : SameB l H H') (e : H l = some (.lst ys)) {a : Addr} {xs : List V} (h : SqT K H a xs) : SqT K H' a xs := by
  rcases h with (h | ⟨o, h⟩) | h
  · exact .inl (.inl (s _ _ (SameB.ne e h fun q z => by cases z) h))
  · exact .inl (.inr ⟨o, s _ _ (SameB.ne e h fun q z => by cases z) h⟩)
  · exact .inr h
theorem SqL.sb (s : SameB l H H') {a : Addr} (n : a ≠ l) {xs : List V} (h : SqL K H a xs) : SqL K H' a xs := by
  rcases h with (h | ⟨o, h⟩) | h
  · exact .inl (.inl (s _ _ n h))
  · exact .inl (.inr ⟨o, s _ _ n h⟩)
  · exact .inr h
mutual
theorem Dp.sb (s : SameB l H H') (e : H l = some (.lst ys)) : ∀ (d : PyData) (v : V), noL d = true → Dp K H v d → Dp K H' v d
  | .none, _, _, h => by cases h; exact .non
  | .bool b, _, _, h => by cases h; exact .bl b
  | .int i, _, _, h => by cases h; exact .int i
  | .str x, _, _, h => by cases h; exact .str x
  | .list ds, _, n, h => by simp [noL] at n
  | .tuple ds, _, n, h => by
    cases h with
    | tup hs ha => exact .tup (SqT.sb s e hs) (DpAll.sb s e ds _ (by simpa [noL] using n) ha)
  | .dict _, _, _, h => by cases h
theorem DpAll.sb (s : SameB l H H') (e : H l = some (.lst ys)) : ∀ (ds : List PyData) (vs : List V), noLs ds = true → DpAll K H vs ds → DpAll K H' vs ds
  | [], _, _, h => by cases h; exact .nil
  | d :: ds, _, n, h => by
    rw [noLs, Bool.and_eq_true] at n
    cases h with
    | cons h1 h2 => exact .cons (Dp.sb s e d _ n.1 h1) (DpAll.sb s e ds _ n.2 h2)
end
end
/-- the end of walked: what has been found stands at l -/
def EndW (K : PySem.W.Frag) (l : Addr) (H : Hp) (Q : Hp → Prop) (E : XK) : Wz → Prop
  | .ok fd => ∀ H' xs, SameB l H H' → H' l = some (.lst xs) → DpAll K H' xs fd → fd.length ≤ 40 → noLs fd = true → Q H'
  | .error e => ∀ H' v dx, SameB l H H' → Dp K H' v e.2 → H' dx = some (.xd [(("what" : Str), v)]) → E (.ref (He.ga K e.1)) (some dx) H'
theorem EndW.mv {l : Addr} {H H' : Hp} {Q : Hp → Prop} {E : XK} {z : Wz} (h : EndW K l H Q E z) (s : SameB l H H') : EndW K l H' Q E z := by
  cases z with
  | ok fd => exact fun H2 xs s2 a b c d => h H2 xs (s.trans s2) a b c d
  | error e => exact fun H2 v dx s2 a b => h H2 v dx (s.trans s2) a b
theorem EndW.bind {l : Addr} {H : Hp} {Q Q' : Hp → Prop} {E : XK} {z : Wz} {f : List PyData → Wz} (h : EndW K l H Q E (bindW z f))
    (k : ∀ H' xs fd, z = .ok fd → SameB l H H' → H' l = some (.lst xs) → DpAll K H' xs fd → fd.length ≤ 40 → noLs fd = true → EndW K l H' Q E (f fd) → Q' H') : EndW K l H Q' E z := by
  cases z with
  | ok fd => exact fun H2 xs s2 a b c d => k H2 xs fd rfl s2 a b c d (h.mv s2)
  | error e => exact h
theorem er_new {l : Addr} {H : Hp} {Q : Hp → Prop} {E : XK} {c : Str} {what : PyData} {v : V} (q : EndW K l H Q E (.error (c, what))) (hv : Dp K H v what) : ∀ d, H d = none → E (.ref (He.ga K c)) (some d) (upd H d (.xd [(("what" : Str), v)])) := fun d hd => q _ v d (SameB.of (Same.new hd)) (hv.mv (Same.new hd)) upd_same
theorem drop_at {α : Type} {l : List α} {i : Nat} {x : α} (h : l[i]? = some x) : l.drop i = x :: l.drop (i + 1) := by
  obtain ⟨hi, rfl⟩ := List.getElem?_eq_some_iff.mp h
  exact List.drop_eq_getElem_cons hi
theorem form_cons {d : PyData} (h : hasForm d = true) : ∃ z r, d = .tuple (.str z :: r) := by
  cases d with
  | tuple ds =>
    cases ds with
    | nil => cases h
    | cons d r =>
      cases d with
      | str z => exact ⟨z, r, rfl⟩
      | _ => cases h
  | _ => cases h
theorem bodies_ok {z : Str} {r pl : List PyData} (hf : hasForm (.tuple (.str z :: r)) = true) (nl : noL (.tuple (.str z :: r)) = true) (ok : okD (.tuple (.str z :: r))) (np : noLs pl = true) {p : List PyData × List PyData} (hp : p ∈ bodiesT z r pl) :
    noLs p.1 = true ∧ p.1.length ≤ pl.length + 1 ∧ noLs p.2 = true ∧ okD (.tuple p.2) := by
  rw [noL, noLs_all] at nl
  have n2 : ∀ i : Int, noLs (pl ++ [.int i]) = true := fun i => noLs_all.mpr fun d hd => by
    rcases List.mem_append.mp hd with h | h
    · exact noLs_all.mp np d h
    · simp at h
      subst h
      rfl
  unfold bodiesT at hp
  split at hp
  · rename_i e
    subst e
    obtain ⟨b, rfl⟩ := form_loop hf
    simp at hp
    subst hp
    have nb := nl (.tuple b) (by simp)
    rw [noL] at nb
    exact ⟨np, Nat.le_succ _, nb, okD_mem ok (by simp [tupOf])⟩
  · split at hp
    · rename_i e
      subst e
      obtain ⟨b, c, rfl⟩ := form_either hf
      have nb := nl (.tuple b) (by simp)
      rw [noL] at nb
      have nc := nl (.tuple c) (by simp)
      rw [noL] at nc
      simp at hp
      rcases hp with rfl | rfl
      · exact ⟨n2 _, by simp, nb, okD_mem ok (by simp [tupOf])⟩
      · exact ⟨n2 _, by simp, nc, okD_mem ok (by simp [tupOf])⟩
    · cases hp
def spWalked (K : PySem.W.Frag) (n : Nat) : Sp := fun vs H Q E => ∃ xb xa l xs body ahead fd, n ≤ 6 + 1 ∧ vs = [xb, xa, .int (7 - (n : Nat)), .ref l] ∧ Dp K H xb (.tuple body) ∧ Dp K H xa (.tuple ahead) ∧ H l = some (.lst xs) ∧ DpAll K H xs fd ∧
  noLs body = true ∧ okD (.tuple body) ∧ noLs ahead = true ∧ ahead.length + 2 * n ≤ 14 ∧ fd.length ≤ 40 ∧ noLs fd = true ∧ EndW K l H (fun H' => Q .non H') E (wk n body ahead fd)
theorem H_walkedS (T : Tx P K mg) {k n : Nat} {sp0 : Sp} (hk : 2 ≤ k) (hs0 : ∀ m, n = m + 1 → sp0 = spWalked K m) (ih : Has P w K mg base k "walked" ["body", "ahead", "deep", "found"] sp0) : Has P w K mg base (k + 1) "walked" ["body", "ahead", "deep", "found"] (spWalked K n) := by
  refine T.d_walked.has sc_walked (fun _ _ _ _ _ _ us hl => match us, hl with | [_, _, _, _], _ => rfl) (fun vs H Q E h => by obtain ⟨_, _, _, _, _, _, _, _, rfl, _⟩ := h; rfl) (fun f cdv A outer s H vs Q E hr h => ⟨?t, ?b, ?rd⟩)
  case b =>
    refine' (pss_cons (ps_if (pt_cmpR op_gt (pv 2) (pe_gint T.g_DEEPEST) (nomark _)) (pss_one (ps_raiseR rfl T.ref T.r_TooMany T.g_TooMany hr (takes_of rfl rfl rfl rfl) (pa_cons (pe_op op_add (pe_gint T.g_DEEPEST) pe_int) pa_nil))) pss_nil)
  (pss_one (ps_for (passes_of rfl) rfl (pi_enumT rfl T.f_enumerate (pa_cons (pv 0) pa_nil)) (pg_tup (by rfl) (pgs_cons (pg_name (i := 4) sc_walked.nd rfl (Or.inl rfl)) (pgs_cons (pg_name (i := 5) sc_walked.nd rfl (Or.inl rfl)) pgs_nil))) (pss_cons (ps_set (i := 6) sc_walked.nd rfl (Or.inl rfl) (pe_op (op_catD (K := K)) (pv 1) (pe_tup (pa_cons (pv 4) pa_nil))))
  (pss_cons (ps_if (pt_cmpR op_eq (pe_callB (call_lnD (K := K)) (by rfl) T.f_len PySem.boot_len (pa_cons (pv 3) pa_nil)) (pe_gint T.g_MOST_STATEMENTS) (nomark _)) (pss_one (ps_raiseR rfl T.ref T.r_TooMany T.g_TooMany hr (takes_of rfl rfl rfl rfl) (pa_cons (pe_op op_add (pe_gint T.g_MOST_STATEMENTS) pe_int) pa_nil))) pss_nil)
  (pss_cons (ps_expr (pe_bm PySem.F.plainAttrs_list PySem.F.slot_list_append PySem.F.type_list_append mt_append (pv 3) (pa_cons (pv 6) pa_nil)))
  (pss_cons (ps_if (pt_not (pt_val (pe_callQ (H_has_form T) (hr.mono (by omega)) pasX (pa_cons (pv 5) pa_nil)))) (pss_one (ps_raiseR rfl T.ref T.r_BadProgram T.g_BadProgram hr (takes_of rfl rfl rfl rfl) (pa_cons (pv 6) pa_nil))) pss_nil)
  (pss_one (ps_for (passes_of rfl) rfl (pi_list (pe_callQ (H_bodies_of T) (hr.mono (by omega)) pasX (pa_cons (pv 5) (pa_cons (pv 6) pa_nil)))) (pg_tup (by rfl) (pgs_cons (pg_name (i := 7) sc_walked.nd rfl (Or.inl rfl)) (pgs_cons (pg_name (i := 8) sc_walked.nd rfl (Or.inl rfl)) pgs_nil))) (pss_one (ps_expr (pe_callQ ih (hr.mono (by omega)) pasX (pa_cons (pv 8) (pa_cons (pv 7) (pa_cons (pe_op op_add (pv 2) pe_int) (pa_cons (pv 3) pa_nil))))))))))))))))
  case rd =>
  obtain ⟨xb, xa, l, xs, body, ahead, fd, hn, rfl, hb, ha, hl, hfd, nb, ok, na, hal, hfl, nf, q⟩ := h
  walk_at "rd"
  by_cases e : (6 : Int) < 7 - (n : Nat)
  · rw [if_pos e]
    have : n = 0 := by omega
    subst this
    exact er_new (what := .int 7) q (.int _)
  · rw [if_neg e]
    obtain ⟨m, rfl⟩ : ∃ m, n = m + 1 := ⟨n - 1, by omega⟩
    cases hs0 m rfl
    obtain ⟨ab, ys, rfl, hS, hA⟩ := dp_tup hb
    have hle := okD_len ok
    refine ⟨_, rfl, ab, ys, rfl, hS, for_it (walk_enumT (K := K) (a := ab) (xs := ys)) (fun i σ H' => ∃ s4 s5 s6 s7 s8 vs fd, σ = [some (.ref ab), some xa, some (.int (7 - ((m + 1 : Nat) : Int))), some (.ref l), s4, s5, s6, s7, s8] ∧ SameB l H H' ∧ H' l = some (.lst vs) ∧ DpAll K H' vs fd ∧ fd.length ≤ 40 ∧ noLs fd = true ∧ EndW K l H' (fun H' => Q .non H') E (wkL (wk m) ahead i (body.drop i) fd))
      ⟨none, none, none, none, none, xs, fd, rfl, SameB.refl _, hl, hfd, hfl, nf, q⟩ (fun i σ H' _ p => ?_) ?_ ?_⟩
    · obtain ⟨s4, s5, s6, s7, s8, vs, fd, _, sb, _⟩ := p
      exact SqT.sb sb hl hS
    · rintro i x σ H1 H2 hi ⟨s4, s5, s6, s7, s8, vs, fd1, rfl, sb, hl1, hfd1, hfl1, nf1, q1⟩ ⟨t, xi, y, rfl, ht, rfl, e1, hy⟩
      cases Option.some.inj e1
      have s2 : Same H1 (upd H1 t (.tup [.int (i : Nat), y])) := Same.new ht
      refine ⟨t, _, rfl, .inl (.inl upd_same), rfl, ?_⟩
      walk_at "rd"
      obtain ⟨st, hst, hys⟩ := hA.get' hy
      rw [drop_at hst, wkL] at q1
      have nst : noL st = true := noLs_all.mp nb st (List.mem_of_getElem? hst)
      have okst : okD st := okD_mem ok (List.mem_of_getElem? hst)
      have npl : noLs (ahead ++ [.int (i : Nat)]) = true := noLs_all.mpr fun d hd => by
        rcases List.mem_append.mp hd with h | h
        · exact noLs_all.mp na d h
        · simp at h
          subst h
          rfl
      refine ⟨_, _, ⟨rfl, rfl⟩, _, _, rfl, rfl, ?_⟩
      refine mkT_D (K := K) (.cons (.int (i : Nat)) .nil) (by simp) fun H3 p s3 hp => ?_
      refine ⟨ahead, _, Dp.sb (sb.trans (.of (s2.trans s3))) hl (.tuple ahead) _ (by rw [noL]; exact na) ha, hp, by simp; omega, fun H4 pl s4 hpl => ?_⟩
      have s14 : Same H1 H4 := s2.trans (s3.trans s4)
      have hl4 := s14 _ _ hl1
      dsimp only
      refine ⟨_, fd1, rfl, .inr (.lst (.inl (.inl hl4)) (hfd1.mv s14)), ?_⟩
      dsimp only
      rw [rEq_int]
      refine ⟨_, rfl, ?_⟩
      by_cases c : fd1.length = 40
      · rw [if_pos (by simp [c])]
        rw [if_pos c] at q1
        exact er_new (what := .int 41) (q1.mv (.of s14)) (.int _)
      · rw [if_neg (by simp; omega)]
        rw [if_neg c] at q1
        have nst2 : noL (.tuple (ahead ++ [.int (i : Nat)])) = true := by rw [noL]; exact npl
        refine ⟨.inl ⟨rfl, vs, .inl (.inl hl4)⟩, l, vs, pl, rfl, rfl, hl4, by rw [hfd1.length]; exact small1000 (by omega), ?_⟩
        have s15 : SameB l H1 (upd H4 l (.lst (vs ++ [pl]))) := (SameB.of s14).trans SameB.upd
        have hfd5 : DpAll K (upd H4 l (.lst (vs ++ [pl]))) (vs ++ [pl]) (fd1 ++ [.tuple (ahead ++ [.int (i : Nat)])]) := (DpAll.sb s15 hl1 _ _ nf1 hfd1).app (.cons (Dp.sb SameB.upd hl4 _ _ nst2 hpl) .nil)
        have hpl5 := Dp.sb (ys := vs) (K := K) (l := l) (H' := upd H4 l (.lst (vs ++ [pl]))) SameB.upd hl4 _ _ nst2 hpl
        have hy5 := Dp.sb (K := K) (sb.trans s15) hl _ _ nst hys
        have hl5 : (upd H4 l (.lst (vs ++ [pl]))) l = some (.lst (vs ++ [pl])) := upd_same
        generalize (upd H4 l (.lst (vs ++ [pl]))) = H5 at *
        refine ⟨y, st, rfl, hy5, okst, fun H6 v s6 hv => ?_⟩
        cases dp_bool hv
        refine ⟨_, rfl, ?_⟩
        by_cases c2 : hasForm st = true
        · rw [if_neg (by rw [c2]; decide)]
          rw [if_pos c2] at q1
          obtain ⟨z, r, rfl⟩ := form_cons c2
          have hl6 := s6 _ _ hl5
          refine ⟨_, rfl, _, rfl, y, pl, z, r, _, rfl, hy5.mv s6, hpl5.mv s6, nst, npl, by simp; omega, c2, fun H7 a t7 ha7 hd7 => ?_⟩
          have hal7 : a ≠ l := fun z => by
            rw [z, hl6] at ha7
            cases ha7
          obtain ⟨a', bs, e, hbs, hab⟩ := dp_lst hd7
          cases e
          refine ⟨a, rfl, ⟨_, hbs⟩, for_it (walk_list (K := K) (a := a) (xs := bs)) (fun j σ H' => ∃ s7 s8 vs fd, σ = [some (.ref ab), some xa, some (.int (7 - ((m + 1 : Nat) : Int))), some (.ref l), some (.int (i : Nat)), some y, some pl, s7, s8] ∧ SameB l H7 H' ∧ H' l = some (.lst vs) ∧ DpAll K H' vs fd ∧ fd.length ≤ 40 ∧ noLs fd = true ∧ EndW K l H' (fun H' => Q .non H') E (bindW (wkS (wk m) ((bodiesT z r (ahead ++ [PyData.int ((i : Nat) : Int)])).drop j) fd) fun fd' => wkL (wk m) ahead (i + 1) (body.drop (i + 1)) fd'))
            ⟨s7, s8, _, _, rfl, SameB.refl _, t7 _ _ hl6, hfd5.mv (s6.trans t7), by simp; omega, ?_, q1.mv (s15.trans (.of (s6.trans t7)))⟩ (fun j σ H' _ p => ?_) ?_ ?_⟩
          · exact noLs_all.mpr fun d hd => by
              rcases List.mem_append.mp hd with h | h
              · exact noLs_all.mp nf1 d h
              · simp at h
                subst h
                exact nst2
          · obtain ⟨_, _, _, _, _, sb7, _⟩ := p
            exact SqL.sb sb7 hal7 hbs
          · rintro j x σ H8 H8' hj ⟨s7', s8', vs2, fd2, rfl, sb7, hl8, hfd8, hfl8, nf8, q8⟩ ⟨rfl, hu⟩
            obtain ⟨d, hdj, hxd⟩ := hab.get' hu
            rw [List.getElem?_map] at hdj
            cases hpj : (bodiesT z r (ahead ++ [.int (i : Nat)]))[j]? with
            | none => rw [hpj] at hdj; cases hdj
            | some p =>
              rw [hpj] at hdj
              cases Option.some.inj hdj
              rw [drop_at hpj, wkS, bindW_assoc] at q8
              obtain ⟨n1, n2, n3, n4⟩ := bodies_ok c2 nst okst npl (List.mem_of_getElem? hpj)
              have nd : noL (pairD p) = true := by rw [pairD, noL, noLs, noL, n1, noLs, noL, n3]; rfl
              have hl7 := t7 _ _ hl6
              have hxd8 := Dp.sb (K := K) sb7 hl7 _ _ nd hxd
              obtain ⟨tp, us, rfl, hSt, hAt⟩ := dp_tup hxd8
              cases hAt with
              | cons h1 h2 =>
              cases h2 with
              | cons h3 h4 =>
              cases h4
              rename_i u1 u2
              refine ⟨tp, _, rfl, hSt, rfl, ?_⟩
              walk_at "rd"
              rw [List.length_append, List.length_cons, List.length_nil] at n2
              refine ⟨_, _, ⟨rfl, rfl⟩, _, _, rfl, rfl, ?_⟩
              refine ⟨u2, u1, l, vs2, p.2, p.1, fd2, by omega, by rw [show (7 - ((m + 1 : Nat) : Int) + 1) = 7 - (m : Nat) by omega], h3, h1, hl8, hfd8, n3, n4, n1, by omega, hfl8, nf8, EndW.bind q8 fun H9 vs9 fd9 _ s9 hl9 hfd9 hfl9 nf9 q9 => ?_⟩
              exact ⟨_, _, vs9, fd9, ⟨rfl, rfl⟩, sb7.trans s9, hl9, hfd9, hfl9, nf9, q9⟩
          · rintro σ H8 ⟨s7', s8', vs2, fd2, rfl, sb7, hl8, hfd8, hfl8, nf8, q8⟩
            rw [List.drop_eq_nil_of_le (by rw [hab.length, List.length_map]; exact Nat.le_refl _)] at q8
            exact ⟨_, _, _, _, _, vs2, fd2, rfl, sb.trans (s15.trans ((SameB.of (s6.trans t7)).trans sb7)), hl8, hfd8, hfl8, nf8, q8⟩
        · rw [if_pos (by simpa using c2)]
          rw [if_neg c2] at q1
          exact er_new (q1.mv (s15.trans (.of s6))) (hpl5.mv s6)
    · rintro σ H1 ⟨s4, s5, s6, s7, s8, vs, fd1, rfl, sb, hl1, hfd1, hfl1, nf1, q1⟩
      rw [List.drop_eq_nil_of_le (by rw [hA.length]; exact Nat.le_refl _)] at q1
      exact q1 _ _ (SameB.refl _) hl1 hfd1 hfl1 nf1

end
end An
namespace An
open PySem PySem.Spec PyProof.Rows L2
local macro_rules | `(tactic| walk_at "rd") => `(tactic| simp only [tSeq, tIfS, tRet, tRetN, tAndV, tOrV, tNotV, tCB, tCons, tVar, tC, tNil, rIsD, L2.start, tAnd, tOr, tNot, tB, tTest, tOp, tIf, tChain, tAsg, gName, gNil, gCons, tDrop, tCall, tNext, tFld, sFld, tRaiseR, tMkR, tSl, tPart, tNoPart, tBM, iTup, iList, iEnumT, tYes, tNever, cxOf, wipe, tPar, tPar3, tTup_eq, tLst_eq, rEq_str, rEq_int, rEq_bl, rNe_str, rNe_int, rI0_int, decide_eq_true_eq, Bool.not_eq_true',
  List.map_cons, List.map_nil, List.cons_append, List.nil_append, List.append_nil, List.getElem?_cons_zero, List.getElem?_cons_succ, Option.some.injEq, exists_eq_left', exists_eq_left, List.cons.injEq, and_true, true_and, List.set_cons_zero, List.set_cons_succ, V.bl.injEq, V.int.injEq, V.str.injEq, V.ref.injEq, V.ty.injEq, List.replicate, List.length_cons, List.length_nil, Nat.zero_add, Nat.reduceAdd, Nat.reduceSub, ite_true, ite_false, Bool.false_eq_true, if_false, if_true])
section
variable {P : Program} {w : World} {K : PySem.W.Frag} {mg : Str → Option Value} {base : Heap}

theorem H_walked (T : Tx P K mg) : ∀ n, Has P w K mg base (n + 3) "walked" ["body", "ahead", "deep", "found"] (spWalked K n)
  | 0 => H_walkedS T (sp0 := fun _ _ _ _ => False) (Nat.le_refl 2) (fun m h => by cases h) (T.d_walked.has sc_walked (fun _ _ _ _ _ _ us hl => match us, hl with | [_, _, _, _], _ => rfl) (fun _ _ _ _ h => h.elim) (fun _ _ _ _ _ _ _ _ _ _ h => h.elim))
  | n + 1 => H_walkedS T (by omega) (fun m h => by cases h; rfl) (H_walked T n)
def wantP : PyData → Wz
  | .tuple body => wk 6 body [] []
  | _ => .error ("BadProgram", .tuple [])
/-- the end of a call that answers a new list, or an error -/
def EndL (K : PySem.W.Frag) (H : Hp) (Q : VK) (E : XK) : Wz → Prop
  | .ok fd => ∀ H' p xs, Same H H' → H p = none → H' p = some (.lst xs) → DpAll K H' xs fd → fd.length ≤ 40 → noLs fd = true → Q (.ref p) H'
  | .error e => ∀ H' v dx, Same H H' → Dp K H' v e.2 → H' dx = some (.xd [(("what" : Str), v)]) → E (.ref (He.ga K e.1)) (some dx) H'
theorem EndL.mv {H H' : Hp} {Q : VK} {E : XK} {z : Wz} (h : EndL K H Q E z) (s : Same H H') : EndL K H' Q E z := by
  cases z with
  | ok fd => exact fun H2 p xs s2 a b c d e => h H2 p xs (s.trans s2) (Same.none s a) b c d e
  | error e => exact fun H2 v dx s2 a b => h H2 v dx (s.trans s2) a b
theorem SameB.same {l : Addr} {H H1 H' : Hp} (n : H l = none) (s : Same H H1) (b : SameB l H1 H') : Same H H' := fun c u e => b c u (fun z => by rw [z, n] at e; cases e) (s c u e)
def spWantP (K : PySem.W.Frag) : Sp := fun vs H Q E => ∃ x d, vs = [x] ∧ Dp K H x d ∧ noL d = true ∧ okD d ∧ EndL K H Q E (wantP d)
theorem H_want_program (T : Tx P K mg) : Has P w K mg base 10 "want_program" ["thing"] (spWantP K) := by
  refine T.d_want_program.has sc_want_program (fun _ _ _ _ _ _ us hl => match us, hl with | [_], _ => rfl) (fun vs H Q E h => by obtain ⟨_, _, rfl, _⟩ := h; rfl) (fun f cdv A outer s H vs Q E hr h => ⟨?t, ?b, ?rd⟩)
  case b =>
    refine' (pss_cons (ps_if (pt_not (pt_val (pe_isD (K := K) (S := "tuple") (by decide) T.f_isinstance T.f_tuple (pv 0) (by decide +kernel)))) (pss_one (ps_raiseR rfl T.ref T.r_BadProgram T.g_BadProgram hr (takes_of rfl rfl rfl rfl) (pa_cons (pe_tup pa_nil) pa_nil))) pss_nil)
  (pss_cons (ps_set (i := 1) sc_want_program.nd rfl (Or.inl rfl) (pe_lst pa_nil))
  (pss_cons (ps_expr (pe_callQ (H_walked T 6) hr pasX (pa_cons (pv 0) (pa_cons (pe_tup pa_nil) (pa_cons pe_int (pa_cons (pv 1) pa_nil))))))
  (pss_one (ps_ret (pv 1))))))
  case rd =>
  obtain ⟨x, d, rfl, hd, nl, ok, q⟩ := h
  walk_at "rd"
  refine ⟨x, d, rfl, hd, ?_⟩
  rw [isD_tup]
  by_cases c : isTup d = true
  · rw [if_neg (by rw [c]; decide)]
    obtain ⟨body, rfl⟩ : ∃ body, d = .tuple body := ⟨_, tup_of c⟩
    refine mkL_D (K := K) .nil (by simp) fun l hl hd1 => ?_
    have s1 : Same H (upd H l (.lst [])) := Same.new hl
    refine mkT_D (K := K) .nil (by simp) fun H2 t s2 ht => ?_
    have hl2 : H2 l = some (.lst []) := s2 _ _ upd_same
    rw [noL] at nl
    refine ⟨x, t, l, [], body, [], [], by omega, by simp, hd.mv (s1.trans s2), ht, hl2, .nil, nl, ok, rfl, by simp, by simp, rfl, ?_⟩
    rw [wantP] at q
    have s12 := s1.trans s2
    cases e : wk 6 body [] [] with
    | ok fd =>
      rw [e] at q
      exact fun H' xs s3 hl3 hfd a b => q H' l xs (SameB.same hl s12 s3) hl hl3 hfd a b
    | error er =>
      rw [e] at q
      exact fun H' v dx s3 hv hx => q H' v dx (SameB.same hl s12 s3) hv hx
  · rw [if_pos (by simpa using c)]
    have e : wantP d = .error ("BadProgram", .tuple []) := by
      cases d <;> first | rfl | exact absurd rfl c
    rw [e] at q
    refine mkT_D (K := K) .nil (by simp) fun H2 t s2 ht => fun dx hdx => ?_
    exact q _ _ _ (s2.trans (Same.new hdx)) (ht.mv (Same.new hdx)) upd_same
def wantC (n : Nat) : Rz := if 3000 < n then .er "TooMany" (.int n) else .ok .none
def spWantC (K : PySem.W.Frag) : Sp := fun vs H Q E => ∃ x ds, vs = [x] ∧ (Dp K H x (.tuple ds) ∨ Dp K H x (.list ds)) ∧ EndD K H Q E (wantC ds.length)
theorem H_want_choices (T : Tx P K mg) : Has P w K mg base 1 "want_choices" ["choices"] (spWantC K) := by
  refine T.d_want_choices.has sc_want_choices (fun _ _ _ _ _ _ us hl => match us, hl with | [_], _ => rfl) (fun vs H Q E h => by obtain ⟨_, _, rfl, _⟩ := h; rfl) (fun f cdv A outer s H vs Q E hr h => ⟨?t, ?b, ?rd⟩)
  case b =>
    refine' (pss_one (ps_if (pt_cmpR op_gt (pe_callB (call_lnD (K := K)) (by rfl) T.f_len PySem.boot_len (pa_cons (pv 0) pa_nil)) (pe_gint T.g_MOST_CHOICES) (nomark _)) (pss_one (ps_raiseR rfl T.ref T.r_TooMany T.g_TooMany hr (takes_of rfl rfl rfl rfl) (pa_cons (pe_callB (call_lnD (K := K)) (by rfl) T.f_len PySem.boot_len (pa_cons (pv 0) pa_nil)) pa_nil))) pss_nil))
  case rd =>
  obtain ⟨x, ds, rfl, hd, q⟩ := h
  walk_at "rd"
  refine ⟨x, ds, rfl, hd, ?_⟩
  dsimp only
  rw [rI0_int]
  refine ⟨_, rfl, ?_⟩
  unfold wantC at q
  by_cases c : 3000 < ds.length
  · rw [if_pos (by simp; omega)]
    rw [if_pos c] at q
    refine ⟨x, ds, rfl, hd, fun dx hdx => ?_⟩
    exact q _ _ dx (Same.new hdx) (.int _) upd_same
  · rw [if_neg (by simp; omega)]
    rw [if_neg c] at q
    exact q.now .non

end
end An
namespace An
open PySem PySem.Spec PyProof.Rows L2
local macro_rules | `(tactic| walk_at "rd") => `(tactic| simp only [tSeq, tIfS, tRet, tRetN, tAndV, tOrV, tNotV, tCB, tCons, tVar, tC, tNil, rIsD, L2.start, tAnd, tOr, tNot, tB, tTest, tOp, tIf, tChain, tAsg, gName, gNil, gCons, tDrop, tCall, tNext, tFld, sFld, tRaiseR, tMkR, tSl, tPart, tNoPart, tBM, iTup, iList, iEnumT, tYes, tNever, cxOf, wipe, tPar, tPar3, tTup_eq, tLst_eq, rEq_str, rEq_int, rEq_bl, rNe_str, rNe_int, rI0_int, decide_eq_true_eq, Bool.not_eq_true',
  List.map_cons, List.map_nil, List.cons_append, List.nil_append, List.append_nil, List.getElem?_cons_zero, List.getElem?_cons_succ, Option.some.injEq, exists_eq_left', exists_eq_left, List.cons.injEq, and_true, true_and, List.set_cons_zero, List.set_cons_succ, V.bl.injEq, V.int.injEq, V.str.injEq, V.ref.injEq, V.ty.injEq, List.replicate, List.length_cons, List.length_nil, Nat.zero_add, Nat.reduceAdd, Nat.reduceSub, ite_true, ite_false, Bool.false_eq_true, if_false, if_true])
section
variable {P : Program} {w : World} {K : PySem.W.Frag} {mg : Str → Option Value} {base : Heap}

def inR (m : Int) : PyData → Bool
  | .int i => decide (0 ≤ i ∧ i < m)
  | _ => false
def isRowD (d : PyData) (m : Int) : Bool := match d with
  | .tuple ds => decide (ds.length = 17) && (ds.map (inR m)).all id
  | _ => false
def letters : List Str := ["e.putp", "e.putq", "e.takep", "e.takeq", "e.end", "e.u", "e.v", "e.w", "y.putp", "y.putq", "y.takep", "y.takeq", "y.end", "y.u", "y.v", "y.w", "y.new"]
def spIsRow (K : PySem.W.Frag) : Sp := fun vs H Q _ => ∃ x d m, vs = [x, .int m] ∧ Dp K H x d ∧ okD d ∧ QD K H (.bool (isRowD d m)) Q
theorem H_is_row_tables (T : Tx P K mg) : Has P w K mg base 2 "is_row_tables" ["row", "many"] (spIsRow K) := by
  refine T.d_is_row_tables.has sc_is_row0 (fun _ _ _ _ _ _ us hl => match us, hl with | [_, _], _ => rfl) (fun vs H Q E h => by obtain ⟨_, _, _, rfl, _⟩ := h; rfl) (fun f cdv A outer s H vs Q E hr h => ⟨?t, ?b, ?rd⟩)
  case b =>
    refine' (pss_cons (ps_if (PW.pt (pw_or (pt_not (pt_val (pe_isD (K := K) (S := "tuple") (by decide) T.f_isinstance T.f_tuple (pv 0) (by decide +kernel)))) (pw_or1 (pt_cmpR op_ne (pe_callB (call_lnD (K := K)) (by rfl) T.f_len PySem.boot_len (pa_cons (pv 0) pa_nil)) (pe_callB (call_lnD (K := K)) (by rfl) T.f_len PySem.boot_len (pa_cons (pe_gref T.g_LETTERS) pa_nil)) (nomark _))))) (pss_one (ps_ret pe_bl)) pss_nil)
  (pss_one (ps_ret (pe_callB (cr_allD (K := K) rfl) (by rfl) T.f_all PyProof.Rows.boot_all (pa_cons ?c1 pa_nil)))))
    case c1 => exact (pe_lc (own := [("state", 2)]) (g := (gName 2)) (tt := tYes) rfl sc_is_row0.nd (pi_tup (pv 0)) (blkOk_by (N := N_is_row0) (sc := defScope s_is_row0) (by decide +kernel)) (fun _ _ _ _ _ => (pg_name (i := 2) sc_is_row0.nd rfl (Or.inl rfl))) (fun _ _ _ _ _ => pts_nil) (fun _ _ _ _ _ => (pe_and (pe_callQ (H_is_number T) (hr.mono (by omega)) passL (pa_cons (pv 2) pa_nil)) (pe_one (pe_chain op_le op_lt pe_int (pv 2) (pv 1))))))
  case rd =>
  obtain ⟨x, d, m, rfl, hd, ok, q⟩ := h
  walk_at "rd"
  refine ⟨x, d, rfl, hd, ?_⟩
  rw [isD_tup]
  by_cases c : isTup d = true
  · rw [if_neg (by rw [c]; decide)]
    obtain ⟨ds, rfl⟩ : ∃ ds, d = .tuple ds := ⟨_, tup_of c⟩
    refine ⟨x, ds, rfl, .inl hd, ?_⟩
    refine ⟨_, letters.map .str, rfl, .inl (txts_dp (T.t_LETTERS H)), ?_⟩
    dsimp only
    rw [rNe_int]
    refine ⟨_, rfl, ?_⟩
    have hF : isRowD (.tuple ds) m = (decide (ds.length = 17) && (ds.map (inR m)).all id) := rfl
    by_cases c2 : ds.length = 17
    · rw [if_neg (by rw [c2]; decide)]
      rw [hF, decide_eq_true c2, Bool.true_and] at q
      rw [tLc_tup]
      obtain ⟨a, xs, rfl, hS, hA⟩ := dp_tup hd
      refine ⟨_, rfl, a, rfl, ⟨_, hS⟩, fun D hD => lcD (K := K) walk_tup (fun i => .bool (inR m (ds.getD i .none))) (by rw [hA.length]; omega) hD (fun _ _ => rfl) (fun H' s => s.tup hS) ?_ ?_⟩
      · rintro i u H5 H6 C hi s5 ⟨rfl, hu⟩ k
        obtain ⟨e, hei, hev⟩ := hA.get' hu
        walk_at "rd"
        refine ⟨u, e, rfl, hev.mv s5, ?_⟩
        have k' : ∀ b, b = inR m e → C (.bl b) H6 := fun b hb => k _ _ (Same.refl _) (by rw [List.getD_eq_getElem?_getD, hei, hb]; exact .bl _)
        refine ⟨_, rfl, ?_⟩
        cases e with
        | int j =>
          rw [if_pos (show isNum (.int j) = true from rfl)]
          cases dp_int hev
          rw [rI0_int]
          refine ⟨_, rfl, ?_⟩
          by_cases c3 : 0 ≤ j
          · rw [if_pos (by simpa using c3), rI0_int]
            exact k' _ (by simp [inR, c3])
          · rw [if_neg (by simpa using c3)]
            exact k' _ (by simp [inR, c3])
        | _ => rw [if_neg (fun z => by cases z)]; exact k' _ rfl
      · intro H' s' hp
        rw [hA.length, range_get (fun d => .bool (inR m d))] at hp
        refine ⟨_, ds.map (inR m), rfl, ?_, qb q s'⟩
        rw [List.map_map]
        exact hp
    · rw [if_pos (by simp [letters]; omega)]
      rw [hF, decide_eq_false c2, Bool.false_and] at q
      exact qb q (Same.refl H)
  · rw [if_pos (by simpa using c)]
    have : isRowD d m = false := by
      cases d <;> first | rfl | exact absurd rfl c
    rw [this] at q
    exact qb q (Same.refl H)
theorem LC_tup {a : Addr} {xs : List V} {ds : List PyData} {g : TG} {te : TE} {vs : List Nat} {σ : L2.St} {H : Hp} {Q : VK} (f : PyData → PyData) (hS : SqT K H a xs) (hA : DpAll K H xs ds) (hz : ds.length ≤ 1000) (nl : ∀ e ∈ ds, noL (f e) = true)
    (hs : ∀ (i : Nat) e u H6 (C : VK), ds[i]? = some e → Same H H6 → Dp K H6 u e → (∀ y H4, Same H6 H4 → Dp K H4 y (f e) → C y H4) → g u (wipe σ vs) H6 fun σ2 H2 => wipe σ2 vs = wipe σ vs ∧ te σ2 H2 C)
    (hd : ∀ H' p, Same H H' → H p = none → Dp K H' (.ref p) (.list (ds.map f)) → Q (.ref p) H') : LC (Itt K a) g tYes te vs σ H Q := by
  intro D hD
  refine lcD (K := K) (walk_tup (xs := xs)) (fun i => f (ds.getD i .none)) (by rw [hA.length]; exact hz) hD (fun i hi => ?_) (fun H' s => s.tup hS) ?_ ?_
  · rw [hA.length] at hi
    rw [List.getD_eq_getElem?_getD, List.getElem?_eq_getElem hi]
    exact nl _ (List.getElem_mem hi)
  · rintro i u H5 H6 C hi s5 ⟨rfl, hu⟩ k
    obtain ⟨e, hei, hev⟩ := hA.get' hu
    have he : ds.getD i .none = e := by rw [List.getD_eq_getElem?_getD, hei]; rfl
    rw [he] at k
    exact hs i e u H6 C hei s5 (hev.mv s5) k
  · intro H' s' hp
    rw [hA.length, range_get f] at hp
    exact hd _ _ s' hD hp
theorem LC_lst {a : Addr} {xs : List V} {ds : List PyData} {g : TG} {te : TE} {vs : List Nat} {σ : L2.St} {H : Hp} {Q : VK} (f : PyData → PyData) (hS : SqL K H a xs) (hA : DpAll K H xs ds) (hz : ds.length ≤ 1000) (nl : ∀ e ∈ ds, noL (f e) = true)
    (hs : ∀ (i : Nat) e u H6 (C : VK), ds[i]? = some e → Same H H6 → Dp K H6 u e → (∀ y H4, Same H6 H4 → Dp K H4 y (f e) → C y H4) → g u (wipe σ vs) H6 fun σ2 H2 => wipe σ2 vs = wipe σ vs ∧ te σ2 H2 C)
    (hd : ∀ H' p, Same H H' → H p = none → Dp K H' (.ref p) (.list (ds.map f)) → Q (.ref p) H') : LC (Itl K a) g tYes te vs σ H Q := by
  intro D hD
  refine lcD (K := K) (walk_list (xs := xs)) (fun i => f (ds.getD i .none)) (by rw [hA.length]; exact hz) hD (fun i hi => ?_) (fun H' s => s.seq hS) ?_ ?_
  · rw [hA.length] at hi
    rw [List.getD_eq_getElem?_getD, List.getElem?_eq_getElem hi]
    exact nl _ (List.getElem_mem hi)
  · rintro i u H5 H6 C hi s5 ⟨rfl, hu⟩ k
    obtain ⟨e, hei, hev⟩ := hA.get' hu
    have he : ds.getD i .none = e := by rw [List.getD_eq_getElem?_getD, hei]; rfl
    rw [he] at k
    exact hs i e u H6 C hei s5 (hev.mv s5) k
  · intro H' s' hp
    rw [hA.length, range_get f] at hp
    exact hd _ _ s' hD hp
theorem erN {H H' : Hp} {Q : VK} {E : XK} {c : Str} {what : PyData} {v : V} (q : EndD K H Q E (.er c what)) (s : Same H H') (hv : Dp K H' v what) : ∀ d, H' d = none → E (.ref (He.ga K c)) (some d) (upd H' d (.xd [(("what" : Str), v)])) := fun d hd => q _ v d (s.trans (Same.new hd)) (hv.mv (Same.new hd)) upd_same
def isBl : PyData → Bool
  | .bool _ => true
  | _ => false
theorem isD_bool (d : PyData) : isD "bool" d = isBl d := by
  cases d <;> simp [isD, isBl]
/-- the first row that is none -/
def badRow (bads : List PyData) (m : Int) : Nat → List PyData → Option Nat
  | _, [] => none
  | i, r :: t => if (isRowD r m && isBl (bads.getD i .none)) = true then badRow bads m (i + 1) t else some i
def wantT2 (moves bads : List PyData) : Rz :=
  if moves = [] ∨ moves.length ≠ bads.length then .er "BadTable" (.int 0) else
  match badRow bads moves.length 0 moves with
  | some i => .er "BadTable" (.int (i : Nat))
  | none => if 200 < moves.length then .er "TooMany" (.int moves.length) else .ok .none
def wantT : PyData → Rz
  | .tuple [.tuple moves, .tuple bads] => wantT2 moves bads
  | _ => .er "BadTable" (.int 0)
def spWantT (K : PySem.W.Frag) : Sp := fun vs H Q E => ∃ x d, vs = [x] ∧ Dp K H x d ∧ okD d ∧ EndD K H Q E (wantT d)
theorem H_want_table (T : Tx P K mg) : Has P w K mg base 3 "want_table" ["table_"] (spWantT K) := by
  refine T.d_want_table.has sc_want_table (fun _ _ _ _ _ _ us hl => match us, hl with | [_], _ => rfl) (fun vs H Q E h => by obtain ⟨_, _, rfl, _⟩ := h; rfl) (fun f cdv A outer s H vs Q E hr h => ⟨?t, ?b, ?rd⟩)
  case b =>
    refine' (pss_cons (ps_if (PW.pt (pw_or (pt_not (pt_val (pe_isD (K := K) (S := "tuple") (by decide) T.f_isinstance T.f_tuple (pv 0) (by decide +kernel)))) (pw_or (pt_cmpR op_ne (pe_callB (call_lnD (K := K)) (by rfl) T.f_len PySem.boot_len (pa_cons (pv 0) pa_nil)) pe_int (nomark _)) (pw_or1 (pt_not (pt_val (pe_callB (cr_allD (K := K) rfl) (by rfl) T.f_all PyProof.Rows.boot_all (pa_cons ?c1 pa_nil)))))))) (pss_one (ps_raiseR rfl T.ref T.r_BadTable T.g_BadTable hr (takes_of rfl rfl rfl rfl) (pa_cons pe_int pa_nil))) pss_nil)
  (pss_cons (ps_asg (pv 0) (pg_tup (by rfl) (pgs_cons (pg_name (i := 1) sc_want_table.nd rfl (Or.inl rfl)) (pgs_cons (pg_name (i := 2) sc_want_table.nd rfl (Or.inl rfl)) pgs_nil))))
  (pss_cons (ps_if (PW.pt (pw_or (pt_cmpR (op_eqK (K := K) hr.units) (pv 1) (pe_tup pa_nil) (nomark _)) (pw_or1 (pt_cmpR op_ne (pe_callB (call_lnD (K := K)) (by rfl) T.f_len PySem.boot_len (pa_cons (pv 1) pa_nil)) (pe_callB (call_lnD (K := K)) (by rfl) T.f_len PySem.boot_len (pa_cons (pv 2) pa_nil)) (nomark _))))) (pss_one (ps_raiseR rfl T.ref T.r_BadTable T.g_BadTable hr (takes_of rfl rfl rfl rfl) (pa_cons pe_int pa_nil))) pss_nil)
  (pss_cons (ps_for (passes_of rfl) rfl (pi_enumT rfl T.f_enumerate (pa_cons (pv 1) pa_nil)) (pg_tup (by rfl) (pgs_cons (pg_name (i := 3) sc_want_table.nd rfl (Or.inl rfl)) (pgs_cons (pg_name (i := 4) sc_want_table.nd rfl (Or.inl rfl)) pgs_nil))) (pss_one (ps_if (PW.pt (pw_or (pt_not (pt_val (pe_callQ (H_is_row_tables T) (hr.mono (by omega)) pasX (pa_cons (pv 4) (pa_cons (pe_callB (call_lnD (K := K)) (by rfl) T.f_len PySem.boot_len (pa_cons (pv 1) pa_nil)) pa_nil))))) (pw_or1 (pt_not (pt_val (pe_isD (K := K) (S := "bool") (by decide) T.f_isinstance T.f_bool (pe_ix (ix_D (K := K)) (pv 2) (pv 3) (fun _ _ => rfl)) (by decide +kernel))))))) (pss_one (ps_raiseR rfl T.ref T.r_BadTable T.g_BadTable hr (takes_of rfl rfl rfl rfl) (pa_cons (pv 3) pa_nil))) pss_nil)))
  (pss_one (ps_if (pt_cmpR op_gt (pe_callB (call_lnD (K := K)) (by rfl) T.f_len PySem.boot_len (pa_cons (pv 1) pa_nil)) (pe_gint T.g_MOST_STATES) (nomark _)) (pss_one (ps_raiseR rfl T.ref T.r_TooMany T.g_TooMany hr (takes_of rfl rfl rfl rfl) (pa_cons (pe_callB (call_lnD (K := K)) (by rfl) T.f_len PySem.boot_len (pa_cons (pv 1) pa_nil)) pa_nil))) pss_nil))))))
    case c1 => exact (pe_lc (own := [("part", 5)]) (g := (gName 5)) (tt := tYes) rfl sc_want_table.nd (pi_tup (pv 0)) (blkOk_by (N := N_want_table) (sc := defScope s_want_table) (by decide +kernel)) (fun _ _ _ _ _ => (pg_name (i := 5) sc_want_table.nd rfl (Or.inl rfl))) (fun _ _ _ _ _ => pts_nil) (fun _ _ _ _ _ => (pe_isD (K := K) (S := "tuple") (by decide) T.f_isinstance T.f_tuple (pv 5) (by decide +kernel))))
  case rd =>
  obtain ⟨x, d, rfl, hd, ok, q⟩ := h
  walk_at "rd"
  refine ⟨x, d, rfl, hd, ?_⟩
  rw [isD_tup]
  by_cases c : isTup d = true
  · rw [if_neg (by rw [c]; decide)]
    obtain ⟨ds, rfl⟩ : ∃ ds, d = .tuple ds := ⟨_, tup_of c⟩
    refine ⟨x, ds, rfl, .inl hd, ?_⟩
    dsimp only
    rw [rNe_int]
    refine ⟨_, rfl, ?_⟩
    by_cases c2 : ds.length = 2
    · rw [if_neg (by rw [c2]; decide), tLc_tup]
      obtain ⟨m, b, rfl⟩ : ∃ m b, ds = [m, b] := by
        match ds, c2 with
        | [m, b], _ => exact ⟨m, b, rfl⟩
      obtain ⟨a, xs, rfl, hS, hA⟩ := dp_tup hd
      refine ⟨_, rfl, a, rfl, ⟨_, hS⟩, LC_tup (K := K) (fun e => .bool (isTup e)) hS hA (by simp) (fun _ _ => rfl) ?_ ?_⟩
      · rintro i e u H6 C hi s6 hu k
        walk_at "rd"
        refine ⟨u, e, rfl, hu, ?_⟩
        rw [isD_tup]
        exact k _ _ (Same.refl _) (.bl _)
      · intro H1 p s1 hp hd1
        refine ⟨_, [isTup m, isTup b], rfl, hd1, ?_⟩
        refine ⟨_, rfl, ?_⟩
        by_cases c3 : isTup m = true ∧ isTup b = true
        · rw [if_neg (by simp [c3])]
          obtain ⟨ms, rfl⟩ : ∃ ms, m = .tuple ms := ⟨_, tup_of c3.1⟩
          obtain ⟨bs, rfl⟩ : ∃ bs, b = .tuple bs := ⟨_, tup_of c3.2⟩
          cases hA with
          | cons h1 h2 =>
          cases h2 with
          | cons h3 h4 =>
          cases h4
          rename_i u1 u2
          refine ⟨a, _, rfl, s1.tup hS, rfl, ?_⟩
          walk_at "rd"
          have q2 : EndD K H Q E (wantT2 ms bs) := q
          refine ⟨_, _, ⟨rfl, rfl⟩, _, _, rfl, rfl, ?_⟩
          have okm : okD (.tuple ms) := okD_mem ok (by simp)
          have hle := okD_len okm
          refine mkT_D (K := K) .nil (by decide) fun H2 t s2 ht => ?_
          have s12 := s1.trans s2
          refine ⟨_, _, h1.mv s12, ht, okm.1, by decide, _, rfl, ?_⟩
          rw [eqv_nil]
          unfold wantT2 at q2
          by_cases c4 : ms = []
          · rw [if_pos (by rw [c4]; rfl)]
            rw [if_pos (.inl c4)] at q2
            exact erN q2 s12 (.int 0)
          · rw [if_neg (by simpa using c4)]
            refine ⟨_, ms, rfl, .inl (h1.mv s12), ?_⟩
            refine ⟨_, bs, rfl, .inl (h3.mv s12), ?_⟩
            dsimp only
            rw [rNe_int]
            refine ⟨_, rfl, ?_⟩
            by_cases c5 : ms.length = bs.length
            · rw [if_neg (by rw [c5]; simp)]
              rw [if_neg (by simp [c4, c5])] at q2
              obtain ⟨a1, xs1, rfl, hS1, hA1⟩ := dp_tup h1
              refine ⟨_, rfl, a1, xs1, rfl, s12.tup hS1, for_it (walk_enumT (K := K) (a := a1) (xs := xs1)) (fun i σ H' => ∃ s3 s4, σ = [some (.ref a), some (.ref a1), some u2, s3, s4, none] ∧ Same H2 H' ∧ badRow bs ms.length 0 ms = badRow bs ms.length i (ms.drop i))
                ⟨none, none, rfl, Same.refl _, rfl⟩ (fun i σ H' _ p => ?_) ?_ ?_⟩
              · obtain ⟨_, _, _, s3, _⟩ := p
                exact (s12.trans s3).tup hS1
              · rintro i x σ H3 H4 hi ⟨s3, s4, rfl, t3, e3⟩ ⟨t, xi, y, rfl, ht, rfl, e1, hy⟩
                cases Option.some.inj e1
                obtain ⟨d, hd, hdy⟩ := hA1.get' hy
                have t4 : Same H (upd H3 t (.tup [.int (i : Nat), y])) := s12.trans (t3.trans (Same.new ht))
                refine ⟨t, _, rfl, .inl (.inl upd_same), rfl, ?_⟩
                rw [drop_at hd, badRow] at e3
                have t5 := t3.trans (Same.new (o := .tup [V.int (i : Nat), y]) ht)
                generalize upd H3 t (.tup [.int (i : Nat), y]) = H4 at *
                walk_at "rd"
                refine ⟨_, _, ⟨rfl, rfl⟩, _, _, rfl, rfl, _, ms, rfl, .inl (h1.mv t4), ?_⟩
                refine ⟨y, d, ms.length, rfl, hdy.mv t4, okD_mem okm (List.mem_of_getElem? hd), fun H5 v t5' hv => ?_⟩
                cases dp_bool hv
                have h5 := t4.trans t5'
                refine ⟨_, rfl, ?_⟩
                by_cases c6 : isRowD d ms.length = true
                · rw [if_neg (by rw [c6]; decide)]
                  have hib : i < bs.length := by rw [hA1.length] at hi; omega
                  refine ⟨bs, i, bs.getD i .none, rfl, h3.mv h5, by rw [List.getD_eq_getElem?_getD, List.getElem?_eq_getElem hib]; rfl, fun v hv => ⟨v, _, rfl, hv, ?_⟩⟩
                  rw [isD_bool]
                  by_cases c7 : isBl (bs.getD i .none) = true
                  · rw [if_neg (by rw [c7]; decide)]
                    rw [if_pos (by rw [c6, c7]; rfl)] at e3
                    exact ⟨_, _, ⟨rfl, rfl⟩, t5.trans t5', e3⟩
                  · rw [if_pos (by simpa using c7)]
                    rw [if_neg (by rw [c6]; simpa using c7)] at e3
                    rw [e3] at q2
                    exact erN q2 h5 (.int _)
                · rw [if_pos (by simpa using c6)]
                  rw [if_neg (by rw [Bool.and_eq_true]; exact fun z => c6 z.1)] at e3
                  rw [e3] at q2
                  exact erN q2 h5 (.int _)
              · rintro σ H3 ⟨s3, s4, rfl, t3, e3⟩
                rw [List.drop_eq_nil_of_le (by rw [hA1.length]; exact Nat.le_refl _), badRow] at e3
                rw [e3] at q2
                have t4 := s12.trans t3
                walk_at "rd"
                refine ⟨_, ms, rfl, .inl (h1.mv t4), ?_⟩
                dsimp only
                rw [rI0_int]
                refine ⟨_, rfl, ?_⟩
                dsimp only at q2
                by_cases c8 : 200 < ms.length
                · rw [if_pos (by simp; omega)]
                  rw [if_pos c8] at q2
                  refine ⟨_, ms, rfl, .inl (h1.mv t4), ?_⟩
                  exact erN q2 t4 (.int _)
                · rw [if_neg (by simp; omega)]
                  rw [if_neg c8] at q2
                  exact q2 _ _ t4 .non
            · rw [if_pos (by simpa using (fun z : (ms.length : Int) = bs.length => c5 (by omega)))]
              rw [if_pos (.inr c5)] at q2
              exact erN q2 s12 (.int 0)
        · rw [if_pos (by simpa [and_comm] using c3)]
          refine erN (Q := Q) (what := .int 0) (c := "BadTable") ?_ s1 (.int 0)
          have : wantT (.tuple [m, b]) = .er "BadTable" (.int 0) := by
            cases m <;> cases b <;> first | rfl | exact absurd ⟨rfl, rfl⟩ c3
          rw [this] at q
          exact q
    · rw [if_pos (by simpa using (fun z : (ds.length : Int) = 2 => c2 (by omega)))]
      refine erN (Q := Q) (what := .int 0) (c := "BadTable") ?_ (Same.refl H) (.int 0)
      have : wantT (.tuple ds) = .er "BadTable" (.int 0) := by
        unfold wantT
        split
        · rename_i e
          cases e
          exact absurd rfl c2
        · rfl
      rw [this] at q
      exact q
  · rw [if_pos (by simpa using c)]
    have e : wantT d = .er "BadTable" (.int 0) := by
      cases d <;> first | rfl | exact absurd rfl c
    rw [e] at q
    exact erN q (Same.refl H) (.int 0)

end
end An
namespace An
open PySem PySem.Spec PyProof.Rows L2
local macro_rules | `(tactic| walk_at "rd") => `(tactic| simp only [tSeq, tIfS, tRet, tRetN, tAndV, tOrV, tNotV, tCB, tCons, tVar, tC, tNil, rIsD, L2.start, tAnd, tOr, tNot, tB, tTest, tOp, tIf, tChain, tAsg, gName, gNil, gCons, tDrop, tCall, tNext, tFld, sFld, tRaiseR, tMkR, tSl, tPart, tNoPart, tBM, iTup, iList, iEnumT, tYes, tNever, cxOf, wipe, tPar, tPar3, tTup_eq, tLst_eq, rEq_str, rEq_int, rEq_bl, rNe_str, rNe_int, rI0_int, decide_eq_true_eq, Bool.not_eq_true',
  List.map_cons, List.map_nil, List.cons_append, List.nil_append, List.append_nil, List.getElem?_cons_zero, List.getElem?_cons_succ, Option.some.injEq, exists_eq_left', exists_eq_left, List.cons.injEq, and_true, true_and, List.set_cons_zero, List.set_cons_succ, V.bl.injEq, V.int.injEq, V.str.injEq, V.ref.injEq, V.ty.injEq, List.replicate, List.length_cons, List.length_nil, Nat.zero_add, Nat.reduceAdd, Nat.reduceSub, ite_true, ite_false, Bool.false_eq_true, if_false, if_true])
section
variable {P : Program} {w : World} {K : PySem.W.Frag} {mg : Str → Option Value} {base : Heap}

/-- t[i], i from either end -/
def rIxZ (K : PySem.W.Frag) : R2 := fun x y H Q => ∃ (ds : List PyData) (i : Int) (d : PyData), y = .int i ∧ Dp K H x (.tuple ds) ∧ atI ds i = some d ∧ ∀ v, Dp K H v d → Q v H
theorem ix_Z {X : Cx} {K : PySem.W.Frag} (hK : X.K = K := by rfl) : IxR X (rIxZ K) := ix_tup.imp fun x y H Q h => by
  subst hK
  obtain ⟨ds, i, d, rfl, hx, e, q⟩ := h
  obtain ⟨a, xs, rfl, hs, ha⟩ := dp_tup hx
  unfold atI at e
  cases ej : ixN ds.length i with
  | none => rw [ej] at e; cases e
  | some j =>
    rw [ej] at e
    obtain ⟨v, ev, hv⟩ := ha.get e
    refine ⟨a, xs, i, v, rfl, rfl, hs, ?_, q v hv⟩
    unfold atI
    rw [ha.length, ej]
    exact ev
def leadsOn (z : Str) (r : List PyData) (m : Int) : Bool := decide (r.length = 1) && ((["loop", "either", "jump"] : List Str).contains z && inR m (r.getD 0 .none))
def spLeadsOn (K : PySem.W.Frag) : Sp := fun vs H Q _ => ∃ x z r m, vs = [x, .int m] ∧ Dp K H x (.tuple (.str z :: r)) ∧ QD K H (.bool (leadsOn z r m)) Q
def isRowM (d : PyData) (m : Int) (last : Bool) : Bool := match d with
  | .tuple (.str z :: r) => if (["loop", "either", "jump"] : List Str).contains z = true then leadsOn z r m else if z = "stop" ∧ r = [] then last else hasForm d
  | _ => false
def spIsRowM (K : PySem.W.Frag) : Sp := fun vs H Q _ => ∃ x d m b, vs = [x, .int m, .bl b] ∧ Dp K H x d ∧ okD d ∧ QD K H (.bool (isRowM d m b)) Q
def badCode (m : Nat) : Nat → List PyData → Option Nat
  | _, [] => none
  | i, r :: t => if isRowM r m (decide (i + 1 = m)) = true then badCode m (i + 1) t else some i
def isStop : PyData → Bool
  | .tuple [.str z] => decide (z = "stop")
  | _ => false
theorem eqv_stop (d : PyData) : PyData.eqv d (.tuple [.str "stop"]) = isStop d := by
  cases d with
  | tuple ds =>
    match ds with
    | [] => rfl
    | [d0] =>
      cases d0 with
      | str z =>
        show ((z == "stop") && true) = decide (z = "stop")
        rw [Bool.and_true]
        exact Bool.eq_iff_iff.mpr (by simp)
      | _ => rfl
    | d0 :: d1 :: t =>
      have e : PyData.eqv (.tuple (d0 :: d1 :: t)) (.tuple [.str "stop"]) = (PyData.eqv d0 (.str "stop") && false) := rfl
      rw [e, Bool.and_false]
      cases d0 <;> rfl
  | _ => rfl
def wantK (ds : List PyData) : Rz := match badCode ds.length 0 ds with
  | some i => .er "BadCode" (.int (i : Nat))
  | none => if isStop (ds.getD (ds.length - 1) .none) = true then .ok .none else .er "BadCode" (.int ds.length)
def spWantK (K : PySem.W.Frag) : Sp := fun vs H Q E => ∃ x ds, vs = [x] ∧ Dp K H x (.tuple ds) ∧ okD (.tuple ds) ∧ EndD K H Q E (wantK ds)
theorem H_leads_on (T : Tx P K mg) : Has P w K mg base 2 "leads_on" ["thing", "many"] (spLeadsOn K) := by
  refine T.d_leads_on.has sc_leads_on (fun _ _ _ _ _ _ us hl => match us, hl with | [_, _], _ => rfl) (fun vs H Q E h => by obtain ⟨_, _, _, _, rfl, _⟩ := h; rfl) (fun f cdv A outer s H vs Q E hr h => ⟨?t, ?b, ?rd⟩)
  case b =>
    refine' (pss_cons (ps_if (PW.pt (pw_or (pt_cmpR op_ne (pe_callB (call_lnD (K := K)) (by rfl) T.f_len PySem.boot_len (pa_cons (pv 0) pa_nil)) pe_int (nomark _)) (pw_or1 (pt_cmpR (op_niK (K := K)) (pe_ix (ix_D (K := K)) (pv 0) pe_int (fun _ _ => rfl)) (pe_tup (pa_cons (pe_gstr T.g_LOOP) (pa_cons (pe_gstr T.g_EITHER) (pa_cons (pe_gstr T.g_JUMP) pa_nil)))) rfl)))) (pss_one (ps_ret pe_bl)) pss_nil)
  (pss_one (ps_ret (pe_and (pe_callQ (H_is_number T) (hr.mono (by omega)) pasX (pa_cons (pe_ix (ix_D (K := K)) (pv 0) pe_int (fun _ _ => rfl)) pa_nil)) (pe_one (pe_chain op_le op_lt pe_int (pe_ix (ix_D (K := K)) (pv 0) pe_int (fun _ _ => rfl)) (pv 1)))))))
  case rd =>
  obtain ⟨x, z, r, m, rfl, hd, q⟩ := h
  walk_at "rd"
  refine ⟨x, _, rfl, .inl hd, ?_⟩
  dsimp only
  rw [rNe_int]
  refine ⟨_, rfl, ?_⟩
  unfold leadsOn at q
  rw [List.length_cons]
  by_cases c1 : r.length = 1
  · rw [if_neg (by rw [c1]; decide)]
    rw [decide_eq_true c1, Bool.true_and] at q
    refine ⟨_, 0, _, rfl, hd, rfl, fun v1 hv1 => ?_⟩
    cases dp_str hv1
    refine mkT_D (K := K) (.cons (.str "loop") (.cons (.str "either") (.cons (.str "jump") .nil))) (by decide) fun H2 t2 s2 ht2 => ?_
    obtain ⟨a2, rfl, hS2⟩ := dp_txts (ss := ["loop", "either", "jump"]) ht2
    refine ⟨a2, _, rfl, .inr hS2, rfl, flat_txts _, _, rfl, ?_⟩
    rw [if_pos rfl, inV_txts]
    by_cases c2 : (["loop", "either", "jump"] : List Str).contains z = true
    · rw [if_neg (by rw [c2]; decide)]
      rw [c2, Bool.true_and] at q
      have hr1 : r[0]? = some (r.getD 0 .none) := by
        rw [List.getD_eq_getElem?_getD, List.getElem?_eq_getElem (by omega)]
        rfl
      refine ⟨_, 1, _, rfl, hd.mv s2, hr1, fun v3 hv3 => ⟨v3, _, rfl, hv3, ?_⟩⟩
      refine ⟨_, rfl, ?_⟩
      cases e3 : r.getD 0 .none with
      | int j =>
        rw [e3] at hv3 q hr1
        cases dp_int hv3
        rw [if_pos (show isNum (.int j) = true from rfl)]
        refine ⟨_, 1, _, rfl, hd.mv s2, hr1, fun v4 hv4 => ?_⟩
        cases dp_int hv4
        rw [rI0_int]
        refine ⟨_, rfl, ?_⟩
        have q' : ∀ b, b = inR m (.int j) → Q (.bl b) H2 := fun b hb => q _ _ s2 (by rw [hb]; exact .bl _)
        by_cases c3 : 0 ≤ j
        · rw [if_pos (by simpa using c3), rI0_int]
          exact q' _ (by simp [inR, c3])
        · rw [if_neg (by simpa using c3)]
          exact q' _ (by simp [inR, c3])
      | _ =>
        rw [e3] at q
        rw [if_neg (fun z => by cases z)]
        exact qb q s2
    · rw [if_pos (by simpa using c2)]
      rw [show (["loop", "either", "jump"] : List Str).contains z = false by simpa using c2, Bool.false_and] at q
      exact qb q s2
  · rw [if_pos (by simp; omega)]
    rw [decide_eq_false c1, Bool.false_and] at q
    exact qb q (Same.refl H)
theorem H_is_row_machine (T : Tx P K mg) : Has P w K mg base 3 "is_row_machine" ["thing", "many", "is_last"] (spIsRowM K) := by
  refine T.d_is_row_machine.has sc_is_row1 (fun _ _ _ _ _ _ us hl => match us, hl with | [_, _, _], _ => rfl) (fun vs H Q E h => by obtain ⟨_, _, _, _, rfl, _⟩ := h; rfl) (fun f cdv A outer s H vs Q E hr h => ⟨?t, ?b, ?rd⟩)
  case b =>
    refine' (pss_cons (ps_if (PW.pt (pw_or (pt_not (pt_val (pe_isD (K := K) (S := "tuple") (by decide) T.f_isinstance T.f_tuple (pv 0) (by decide +kernel)))) (pw_or (pt_cmpR (op_eqK (K := K) hr.units) (pv 0) (pe_tup pa_nil) (nomark _)) (pw_or1 (pt_not (pt_val (pe_isD (K := K) (S := "str") (by decide) T.f_isinstance T.f_str (pe_ix (ix_D (K := K)) (pv 0) pe_int (fun _ _ => rfl)) (by decide +kernel)))))))) (pss_one (ps_ret pe_bl)) pss_nil)
  (pss_cons (ps_if (pt_cmpR (op_inK (K := K)) (pe_ix (ix_D (K := K)) (pv 0) pe_int (fun _ _ => rfl)) (pe_tup (pa_cons (pe_gstr T.g_LOOP) (pa_cons (pe_gstr T.g_EITHER) (pa_cons (pe_gstr T.g_JUMP) pa_nil)))) rfl) (pss_one (ps_ret (pe_callQ (H_leads_on T) (hr.mono (by omega)) pasX (pa_cons (pv 0) (pa_cons (pv 1) pa_nil))))) pss_nil)
  (pss_one (ps_ret (pe_ifExp (pt_cmpR (op_eqK (K := K) hr.units) (pv 0) (pe_tup (pa_cons (pe_gstr T.g_STOP) pa_nil)) (nomark _)) (pv 2) (pe_callQ (H_has_form T) (hr.mono (by omega)) pasX (pa_cons (pv 0) pa_nil)))))))
  case rd =>
  obtain ⟨x, d, m, b, rfl, hd, ok, q⟩ := h
  walk_at "rd"
  refine ⟨x, d, rfl, hd, ?_⟩
  rw [isD_tup]
  cases d with
  | tuple ds =>
    rw [if_neg (fun z => by cases z)]
    refine mkT_D (K := K) .nil (by decide) fun H1 t s1 ht => ?_
    refine ⟨_, _, hd.mv s1, ht, ok.1, by decide, _, rfl, ?_⟩
    rw [eqv_nil]
    cases ds with
    | nil => exact qb q s1
    | cons d0 r =>
      rw [if_neg (by simp)]
      refine ⟨_, 0, _, rfl, hd.mv s1, rfl, fun v0 hv0 => ⟨_, _, rfl, hv0, ?_⟩⟩
      cases d0 with
      | str z =>
        rw [if_neg (by simp [isD])]
        refine ⟨_, 0, _, rfl, hd.mv s1, rfl, fun v1 hv1 => ?_⟩
        cases dp_str hv1
        refine mkT_D (K := K) (.cons (.str "loop") (.cons (.str "either") (.cons (.str "jump") .nil))) (by decide) fun H2 t2 s2 ht2 => ?_
        obtain ⟨a2, rfl, hS2⟩ := dp_txts (ss := ["loop", "either", "jump"]) ht2
        have s12 := s1.trans s2
        refine ⟨a2, _, rfl, .inr hS2, rfl, flat_txts _, _, rfl, ?_⟩
        rw [if_neg Bool.false_ne_true, inV_txts]
        by_cases c2 : (["loop", "either", "jump"] : List Str).contains z = true
        · rw [if_pos c2]
          have e : isRowM (.tuple (.str z :: r)) m b = leadsOn z r m := if_pos c2
          rw [e] at q
          exact ⟨x, z, r, m, rfl, hd.mv s12, q.mv s12⟩
        · rw [if_neg c2]
          have e : isRowM (.tuple (.str z :: r)) m b = if z = "stop" ∧ r = [] then b else hasForm (.tuple (.str z :: r)) := if_neg c2
          rw [e] at q
          refine mkT_D (K := K) (.cons (.str "stop") .nil) (by decide) fun H3 t3 s3 ht3 => ?_
          have s13 := s12.trans s3
          refine ⟨_, _, hd.mv s13, ht3, ok.1, by decide +kernel, _, rfl, ?_⟩
          rw [eqv_stop]
          by_cases c3 : z = "stop" ∧ r = []
          · obtain ⟨rfl, rfl⟩ := c3
            rw [if_pos (show isStop (.tuple [.str "stop"]) = true from rfl)]
            rw [if_pos ⟨rfl, rfl⟩] at q
            exact qb q s13
          · rw [if_neg c3] at q
            rw [if_neg (fun h => c3 (by cases r with
              | nil => exact ⟨of_decide_eq_true h, rfl⟩
              | cons _ _ => cases h))]
            exact ⟨x, _, rfl, hd.mv s13, ok, q.mv s13⟩
      | _ => rw [if_pos (by simp [isD])]; exact qb q s1
  | _ => exact qb q (Same.refl H)
theorem H_want_code (T : Tx P K mg) : Has P w K mg base 4 "want_code" ["code"] (spWantK K) := by
  refine T.d_want_code.has sc_want_code (fun _ _ _ _ _ _ us hl => match us, hl with | [_], _ => rfl) (fun vs H Q E h => by obtain ⟨_, _, rfl, _⟩ := h; rfl) (fun f cdv A outer s H vs Q E hr h => ⟨?t, ?b, ?rd⟩)
  case b =>
    refine' (pss_cons (ps_for (passes_of rfl) rfl (pi_enumT rfl T.f_enumerate (pa_cons (pv 0) pa_nil)) (pg_tup (by rfl) (pgs_cons (pg_name (i := 1) sc_want_code.nd rfl (Or.inl rfl)) (pgs_cons (pg_name (i := 2) sc_want_code.nd rfl (Or.inl rfl)) pgs_nil))) (pss_one (ps_if (pt_not (pt_val (pe_callQ (H_is_row_machine T) (hr.mono (by omega)) pasX (pa_cons (pv 2) (pa_cons (pe_callB (call_lnD (K := K)) (by rfl) T.f_len PySem.boot_len (pa_cons (pv 0) pa_nil)) (pa_cons (pe_cmpR op_eq (pe_op op_add (pv 1) pe_int) (pe_callB (call_lnD (K := K)) (by rfl) T.f_len PySem.boot_len (pa_cons (pv 0) pa_nil)) (nomark _)) pa_nil)))))) (pss_one (ps_raiseR rfl T.ref T.r_BadCode T.g_BadCode hr (takes_of rfl rfl rfl rfl) (pa_cons (pv 1) pa_nil))) pss_nil)))
  (pss_one (ps_if (PW.pt (pw_or (pt_cmpR (op_eqK (K := K) hr.units) (pv 0) (pe_tup pa_nil) (nomark _)) (pw_or1 (pt_cmpR (op_neK (K := K) hr.units) (pe_ix (ix_Z (K := K)) (pv 0) (pe_un un_neg pe_int) (fun _ _ => rfl)) (pe_tup (pa_cons (pe_gstr T.g_STOP) pa_nil)) (nomark _))))) (pss_one (ps_raiseR rfl T.ref T.r_BadCode T.g_BadCode hr (takes_of rfl rfl rfl rfl) (pa_cons (pe_callB (call_lnD (K := K)) (by rfl) T.f_len PySem.boot_len (pa_cons (pv 0) pa_nil)) pa_nil))) pss_nil)))
  case rd =>
  obtain ⟨x, ds, rfl, hd, ok, q⟩ := h
  walk_at "rd"
  obtain ⟨a1, xs1, rfl, hS1, hA1⟩ := dp_tup hd
  have hle := okD_len ok
  refine ⟨_, rfl, a1, xs1, rfl, hS1, for_it (walk_enumT (K := K) (a := a1) (xs := xs1)) (fun i σ H' => ∃ s1 s2, σ = [some (.ref a1), s1, s2] ∧ Same H H' ∧ badCode ds.length 0 ds = badCode ds.length i (ds.drop i))
    ⟨none, none, rfl, Same.refl _, rfl⟩ (fun i σ H' _ p => ?_) ?_ ?_⟩
  · obtain ⟨_, _, _, s3, _⟩ := p
    exact s3.tup hS1
  · rintro i x σ H3 H4 hi ⟨s3, s4, rfl, t3, e3⟩ ⟨t, xi, y, rfl, ht, rfl, e1, hy⟩
    cases Option.some.inj e1
    obtain ⟨d, hdi, hdy⟩ := hA1.get' hy
    have t4 : Same H (upd H3 t (.tup [.int (i : Nat), y])) := t3.trans (Same.new ht)
    refine ⟨t, _, rfl, .inl (.inl upd_same), rfl, ?_⟩
    rw [drop_at hdi, badCode] at e3
    generalize upd H3 t (.tup [.int (i : Nat), y]) = H4 at *
    walk_at "rd"
    refine ⟨_, _, ⟨rfl, rfl⟩, _, _, rfl, rfl, _, ds, rfl, .inl (hd.mv t4), ?_⟩
    dsimp only
    rw [rI0_int]
    refine ⟨_, ds, rfl, .inl (hd.mv t4), ?_⟩
    dsimp only
    rw [rEq_int]
    refine ⟨y, d, ds.length, decide (i + 1 = ds.length), ?_, hdy.mv t4, okD_mem ok (List.mem_of_getElem? hdi), fun H5 v t5 hv => ?_⟩
    · rw [show decide ((i : Int) + 1 = (ds.length : Nat)) = decide (i + 1 = ds.length) from Bool.eq_iff_iff.mpr (by simp; omega)]
    · cases dp_bool hv
      have h5 := t4.trans t5
      refine ⟨_, rfl, ?_⟩
      unfold wantK at q
      by_cases c6 : isRowM d ds.length (decide (i + 1 = ds.length)) = true
      · rw [if_neg (by rw [c6]; decide)]
        rw [if_pos c6] at e3
        exact ⟨_, _, ⟨rfl, rfl⟩, h5, e3⟩
      · rw [if_pos (by simpa using c6)]
        rw [if_neg c6] at e3
        rw [e3] at q
        exact erN q h5 (.int _)
  · rintro σ H3 ⟨s3, s4, rfl, t3, e3⟩
    rw [List.drop_eq_nil_of_le (by rw [hA1.length]; exact Nat.le_refl _), badCode] at e3
    unfold wantK at q
    rw [e3] at q
    walk_at "rd"
    refine mkT_D (K := K) .nil (by decide) fun H1 t s1 ht => ?_
    have t4 := t3.trans s1
    refine ⟨_, _, hd.mv t4, ht, ok.1, by decide, _, rfl, ?_⟩
    rw [eqv_nil]
    dsimp only at q
    by_cases c1 : ds = []
    · rw [if_pos (by rw [c1]; rfl)]
      refine ⟨_, ds, rfl, .inl (hd.mv t4), ?_⟩
      subst c1
      rw [if_neg (by decide)] at q
      exact erN q t4 (.int _)
    · rw [if_neg (by simpa using c1)]
      have hpos : 0 < ds.length := List.length_pos_iff.mpr c1
      have hlast : ds[ds.length - 1]? = some (ds.getD (ds.length - 1) .none) := by
        rw [List.getD_eq_getElem?_getD, List.getElem?_eq_getElem (by omega)]
        rfl
      unfold tUn
      walk_at "rd"
      have hat : atI ds (-1) = some (ds.getD (ds.length - 1) .none) := by
        unfold atI ixN
        rw [if_neg (by decide), if_pos (by omega)]
        rw [show (some ((-1 : Int) + ds.length).toNat).bind (fun j => ds[j]?) = ds[((-1 : Int) + ds.length).toNat]? from rfl, show ((-1 : Int) + ds.length).toNat = ds.length - 1 by omega]
        exact hlast
      refine ⟨1, rfl, ds, -1, _, rfl, hd.mv t4, hat, fun v hv => ?_⟩
      · refine mkT_D (K := K) (.cons (.str "stop") .nil) (by decide) fun H5 t5 s5 ht5 => ?_
        refine ⟨_, _, hv.mv s5, ht5, (okD_mem ok (List.mem_of_getElem? hlast)).1, by decide +kernel, ?_⟩
        rw [eqv_stop]
        have t6 := t4.trans s5
        refine ⟨_, rfl, ?_⟩
        by_cases c3 : isStop (ds.getD (ds.length - 1) .none) = true
        · rw [if_neg (by rw [c3]; decide)]
          rw [if_pos c3] at q
          exact q _ _ t6 .non
        · rw [if_pos (by simpa using c3)]
          rw [if_neg c3] at q
          refine ⟨_, ds, rfl, .inl (hd.mv t6), ?_⟩
          exact erN q t6 (.int _)

end
end An
namespace An
open PySem PySem.Spec PyProof.Rows L2
local macro_rules | `(tactic| walk_at "rd") => `(tactic| simp only [tSeq, tIfS, tRet, tRetN, tAndV, tOrV, tNotV, tCB, tCons, tVar, tC, tNil, rIsD, L2.start, tAnd, tOr, tNot, tB, tTest, tOp, tIf, tChain, tAsg, gName, gNil, gCons, tDrop, tCall, tNext, tFld, sFld, tRaiseR, tMkR, tSl, tPart, tNoPart, tBM, iTup, iList, iEnumT, tYes, tNever, cxOf, wipe, tPar, tPar3, tTup_eq, tLst_eq, rEq_str, rEq_int, rEq_bl, rNe_str, rNe_int, rI0_int, decide_eq_true_eq, Bool.not_eq_true',
  List.map_cons, List.map_nil, List.cons_append, List.nil_append, List.append_nil, List.getElem?_cons_zero, List.getElem?_cons_succ, Option.some.injEq, exists_eq_left', exists_eq_left, List.cons.injEq, and_true, true_and, List.set_cons_zero, List.set_cons_succ, V.bl.injEq, V.int.injEq, V.str.injEq, V.ref.injEq, V.ty.injEq, List.replicate, List.length_cons, List.length_nil, Nat.zero_add, Nat.reduceAdd, Nat.reduceSub, ite_true, ite_false, Bool.false_eq_true, if_false, if_true])
section
variable {P : Program} {w : World} {K : PySem.W.Frag} {mg : Str → Option Value} {base : Heap}

theorem un65 {A : Around} {k : Nat} (r : Room k A) : A.units + 65 < cLine := by have := r.un; omega
theorem op_niD {X : Cx} {K : PySem.W.Frag} (hu : X.A.units + 65 < cLine) (hK : X.K = K := by rfl) : OpR X (compareOp .NotIn) (rNotInD K) := by
  subst hK
  exact op_notInD hu
def spots : List Str := ["a", "b", "c", "d", "p", "q", "x"]
def isSpot : PyData → Bool
  | .none => true
  | .str z => spots.contains z
  | _ => false
def spFirst (K : PySem.W.Frag) : Sp := fun vs H Q _ => ∃ x, vs = [x] ∧ QD K H (.tuple [.int 0]) Q
theorem H_first_place (T : Tx P K mg) : Has P w K mg base 1 "first_place" ["program"] (spFirst K) := by
  refine T.d_first_place.has sc_first_place (fun _ _ _ _ _ _ us hl => match us, hl with | [_], _ => rfl) (fun vs H Q E h => by obtain ⟨_, rfl, _⟩ := h; rfl) (fun f cdv A outer s H vs Q E hr h => ⟨?t, ?b, ?rd⟩)
  case b =>
    refine' (pss_one (ps_ret (pe_tup (pa_cons pe_int pa_nil))))
  case rd =>
  obtain ⟨x, rfl, q⟩ := h
  walk_at "rd"
  exact mkT_D (.cons (.int 0) .nil) (by simp) fun H1 t s1 ht => q _ _ s1 ht
def spEnd (K : PySem.W.Frag) : Sp := fun vs H Q _ => ∃ x ds, vs = [x] ∧ Dp K H x (.tuple ds) ∧ QD K H (.tuple [.int ds.length]) Q
theorem H_end_place (T : Tx P K mg) : Has P w K mg base 1 "end_place" ["program"] (spEnd K) := by
  refine T.d_end_place.has sc_end_place (fun _ _ _ _ _ _ us hl => match us, hl with | [_], _ => rfl) (fun vs H Q E h => by obtain ⟨_, _, rfl, _⟩ := h; rfl) (fun f cdv A outer s H vs Q E hr h => ⟨?t, ?b, ?rd⟩)
  case b =>
    refine' (pss_one (ps_ret (pe_tup (pa_cons (pe_callB (call_lnD (K := K)) (by rfl) T.f_len PySem.boot_len (pa_cons (pv 0) pa_nil)) pa_nil))))
  case rd =>
  obtain ⟨x, ds, rfl, hd, q⟩ := h
  walk_at "rd"
  refine ⟨x, ds, rfl, .inl hd, ?_⟩
  exact mkT_D (.cons (.int _) .nil) (by simp) fun H1 t s1 ht => q _ _ s1 ht
def spIsSpot (K : PySem.W.Frag) : Sp := fun vs H Q _ => ∃ x d, vs = [x] ∧ Dp K H x d ∧ QD K H (.bool (isSpot d)) Q
theorem H_is_spot (T : Tx P K mg) : Has P w K mg base 1 "is_spot" ["thing"] (spIsSpot K) := by
  refine T.d_is_spot.has sc_is_spot (fun _ _ _ _ _ _ us hl => match us, hl with | [_], _ => rfl) (fun vs H Q E h => by obtain ⟨_, _, rfl, _⟩ := h; rfl) (fun f cdv A outer s H vs Q E hr h => ⟨?t, ?b, ?rd⟩)
  case b =>
    refine' (pss_one (ps_ret (pe_or (pe_cmpR op_isN (pv 0) pe_non (nomark _)) (pe_one (pe_and (pe_isD (K := K) (S := "str") (by decide) T.f_isinstance T.f_str (pv 0) (by decide +kernel)) (pe_one (pe_cmpR (op_inK (K := K)) (pv 0) (pe_slice (sl_D (K := K)) (pe_gref T.g_SPOTS) (po_some pe_int) po_none) rfl)))))))
  case rd =>
  obtain ⟨x, d, rfl, hd, q⟩ := h
  walk_at "rd"
  by_cases c : x = .non
  · rw [if_pos c]
    subst c
    cases hd
    exact qb q (Same.refl H)
  · rw [if_neg c]
    refine ⟨x, d, rfl, hd, ?_⟩
    cases d with
    | none => exact absurd (dp_none hd) c
    | str z =>
      rw [if_pos (by simp [isD])]
      cases dp_str hd
      have hsp : Dp K H (.ref (He.ga K "SPOTS")) (.tuple (.none :: spots.map .str)) := .tup (T.t_SPOTS H) (.cons .non (.cons (.str _) (.cons (.str _) (.cons (.str _) (.cons (.str _) (.cons (.str _) (.cons (.str _) (.cons (.str _) .nil))))))))
      refine ⟨_, hsp, fun H1 v s1 hv => ?_⟩
      rw [cut1] at hv
      obtain ⟨a, rfl, hS⟩ := dp_txts (ss := spots) hv
      refine ⟨a, _, rfl, .inr hS, rfl, flat_txts _, ?_⟩
      rw [if_neg Bool.false_ne_true, inV_txts]
      exact qb q s1
    | _ => rw [if_neg (by simp [isD])]; exact qb q (Same.refl H)
def spFault (K : PySem.W.Frag) : Sp := fun vs H Q _ => ∃ xs x ps i, vs = [xs, x] ∧ Dp K H xs (.list ps) ∧ Dp K H x (.tuple [.tuple [.int i], .int 5, .int 5]) ∧ SeqAt.shaped (.list ps) = true ∧ QD K H (if (ps.any fun z => PyData.eqv z (.tuple [.int i])) = true then .tuple [.bool false, .int 0] else .tuple [.bool true, .tuple [.int i]]) Q
theorem H_fault_of (T : Tx P K mg) : Has P w K mg base 3 "fault_of" ["places", "thing"] (spFault K) := by
  refine T.d_fault_of.has sc_fault_of (fun _ _ _ _ _ _ us hl => match us, hl with | [_, _], _ => rfl) (fun vs H Q E h => by obtain ⟨_, _, _, _, rfl, _⟩ := h; rfl) (fun f cdv A outer s H vs Q E hr h => ⟨?t, ?b, ?rd⟩)
  case b =>
    refine' (pss_cons (ps_if (PW.pt (pw_or (pt_not (pt_val (pe_isD (K := K) (S := "tuple") (by decide) T.f_isinstance T.f_tuple (pv 1) (by decide +kernel)))) (pw_or1 (pt_cmpR op_ne (pe_callB (call_lnD (K := K)) (by rfl) T.f_len PySem.boot_len (pa_cons (pv 1) pa_nil)) pe_int (nomark _))))) (pss_one (ps_ret (pe_tup (pa_cons pe_bl (pa_cons (pv 1) pa_nil))))) pss_nil)
      (pss_cons (ps_asg (pv 1) (pg_tup (by rfl) (pgs_cons (pg_name (i := 2) sc_fault_of.nd rfl (Or.inl rfl)) (pgs_cons (pg_name (i := 3) sc_fault_of.nd rfl (Or.inl rfl)) (pgs_cons (pg_name (i := 4) sc_fault_of.nd rfl (Or.inl rfl)) pgs_nil)))))
      (pss_cons (ps_if (PW.pt (pw_or (pt_not (pt_val (pe_isD (K := K) (S := "tuple") (by decide) T.f_isinstance T.f_tuple (pv 2) (by decide +kernel)))) (pw_or (pt_not (pt_val (pe_callB (cr_allD (K := K) rfl) (by rfl) T.f_all PyProof.Rows.boot_all (pa_cons ?c1 pa_nil)))) (pw_or1 (pt_cmpR (op_niD (K := K) (un65 hr)) (pv 2) (pv 0) rfl))))) (pss_one (ps_ret (pe_tup (pa_cons pe_bl (pa_cons (pv 2) pa_nil))))) pss_nil)
      (pss_cons (ps_if (pt_not (pt_val (pe_callQ (H_is_spot T) (hr.mono (by omega)) pasX (pa_cons (pv 3) pa_nil)))) (pss_one (ps_ret (pe_tup (pa_cons pe_bl (pa_cons pe_int pa_nil))))) pss_nil)
      (pss_cons (ps_never)
      (pss_one (ps_never)))))))
    case c1 => exact (pe_lc (own := [("index", 5)]) (g := (gName 5)) (tt := tYes) rfl sc_fault_of.nd (pi_tup (pv 2)) (blkOk_by (N := N_fault_of) (sc := defScope s_fault_of) (by decide +kernel)) (fun _ _ _ _ _ => (pg_name (i := 5) sc_fault_of.nd rfl (Or.inl rfl))) (fun _ _ _ _ _ => pts_nil) (fun _ _ _ _ _ => (pe_callQ (H_is_number T) (hr.mono (by omega)) passL (pa_cons (pv 5) pa_nil))))
  case rd =>
  obtain ⟨xs, x, ps, i, rfl, hps, hx, sh, q⟩ := h
  walk_at "rd"
  refine ⟨x, _, rfl, hx, ?_⟩
  rw [isD_tup, if_neg (fun z => by cases z)]
  refine ⟨x, _, rfl, .inl hx, ?_⟩
  dsimp only
  rw [rNe_int]
  refine ⟨_, rfl, ?_⟩
  rw [if_neg (by simp)]
  obtain ⟨a, us, rfl, hS, hA⟩ := dp_tup hx
  cases hA with
  | cons h1 h2 =>
  cases h2 with
  | cons h3 h4 =>
  cases h4 with
  | cons h5 h6 =>
  cases h6
  rename_i u1 u2 u3
  cases dp_int h3
  cases dp_int h5
  refine ⟨a, _, rfl, hS, rfl, ?_⟩
  walk_at "rd"
  refine ⟨_, _, ⟨rfl, rfl⟩, _, _, rfl, _, _, rfl, rfl, ?_⟩
  refine ⟨_, _, rfl, h1, ?_⟩
  rw [isD_tup, if_neg (fun z => by cases z)]
  rw [tLc_tup]
  obtain ⟨a1, us1, rfl, hS1, hA1⟩ := dp_tup h1
  refine ⟨_, rfl, a1, rfl, ⟨_, hS1⟩, LC_tup (K := K) (fun e => .bool (isNum e)) hS1 hA1 (by simp) (fun _ _ => rfl) ?_ ?_⟩
  · rintro j e u H6 C hi s6 hu k
    walk_at "rd"
    refine ⟨u, e, rfl, hu, ?_⟩
    exact k _ _ (Same.refl _) (.bl _)
  · intro H2 p s2 hp hd2
    refine ⟨_, [true], rfl, hd2, ?_⟩
    refine ⟨_, rfl, ?_⟩
    rw [if_neg (by decide)]
    refine ⟨_, ps, h1.mv s2, hps.mv s2, rfl, sh, _, rfl, ?_⟩
    by_cases c : (ps.any fun z => PyData.eqv z (.tuple [.int i])) = true
    · rw [if_neg (by rw [c]; decide)]
      rw [if_pos c] at q
      refine ⟨_, _, rfl, .int 5, fun H3 v s3 hv => ?_⟩
      cases dp_bool hv
      refine ⟨_, rfl, ?_⟩
      rw [if_pos (show isSpot (.int 5) = false from rfl)]
      exact mkT_D (.cons (.bl _) (.cons (.int 0) .nil)) (by simp) fun H4 t s4 ht => q _ _ (s2.trans (s3.trans s4)) ht
    · rw [if_pos (by simpa using c)]
      rw [if_neg c] at q
      exact mkT_D (.cons (.bl _) (.cons (h1.mv s2) .nil)) (by simp) fun H4 t s4 ht => q _ _ (s2.trans s4) ht
def wantS (ps : List PyData) (i : Int) : Rz := if (ps.any fun z => PyData.eqv z (.tuple [.int i])) = true then .er "BadThing" (.int 0) else .er "BadPlace" (.tuple [.int i])
def spWantS (K : PySem.W.Frag) : Sp := fun vs H Q E => ∃ xs x ps i, vs = [xs, x] ∧ Dp K H xs (.list ps) ∧ Dp K H x (.tuple [.tuple [.int i], .int 5, .int 5]) ∧ SeqAt.shaped (.list ps) = true ∧ EndD K H Q E (wantS ps i)
theorem H_want_state (T : Tx P K mg) : Has P w K mg base 4 "want_state" ["places", "state"] (spWantS K) := by
  refine T.d_want_state.has sc_want_state (fun _ _ _ _ _ _ us hl => match us, hl with | [_, _], _ => rfl) (fun vs H Q E h => by obtain ⟨_, _, _, _, rfl, _⟩ := h; rfl) (fun f cdv A outer s H vs Q E hr h => ⟨?t, ?b, ?rd⟩)
  case b =>
    refine' (pss_cons (ps_set (i := 2) sc_want_state.nd rfl (Or.inl rfl) (pe_callQ (H_fault_of T) (hr.mono (by omega)) pasX (pa_cons (pv 0) (pa_cons (pv 1) pa_nil))))
  (pss_one (ps_if (pt_cmpR op_notN (pv 2) pe_non (nomark _)) (pss_cons (ps_asg (pv 2) (pg_tup (by rfl) (pgs_cons (pg_name (i := 3) sc_want_state.nd rfl (Or.inl rfl)) (pgs_cons (pg_name (i := 4) sc_want_state.nd rfl (Or.inl rfl)) pgs_nil))))
  (pss_cons (ps_if (pt_val (pv 3)) (pss_one (ps_raiseR rfl T.ref T.r_BadPlace T.g_BadPlace hr (takes_of rfl rfl rfl rfl) (pa_cons (pv 4) pa_nil))) pss_nil)
  (pss_one (ps_raiseR rfl T.ref T.r_BadThing T.g_BadThing hr (takes_of rfl rfl rfl rfl) (pa_cons (pv 4) pa_nil))))) pss_nil)))
  case rd =>
  obtain ⟨xs, x, ps, i, rfl, hps, hx, sh, q⟩ := h
  walk_at "rd"
  refine ⟨xs, x, ps, i, rfl, hps, hx, sh, fun H1 v s1 hv => ?_⟩
  unfold wantS at q
  have hne : v ≠ .non := fun e => by
    subst e
    split at hv <;> cases hv
  dsimp only
  rw [if_pos (decide_eq_false hne)]
  by_cases c : (ps.any fun z => PyData.eqv z (.tuple [.int i])) = true
  · rw [if_pos c] at hv q
    obtain ⟨a, us, rfl, hS, hA⟩ := dp_tup hv
    cases hA with
    | cons h1 h2 =>
    cases h2 with
    | cons h3 h4 =>
    cases h4
    cases dp_bool h1
    refine ⟨a, _, rfl, hS, rfl, ?_⟩
    walk_at "rd"
    refine ⟨_, _, ⟨rfl, rfl⟩, _, _, rfl, rfl, _, rfl, ?_⟩
    rw [if_neg Bool.false_ne_true]
    exact erN q s1 h3
  · rw [if_neg c] at hv q
    obtain ⟨a, us, rfl, hS, hA⟩ := dp_tup hv
    cases hA with
    | cons h1 h2 =>
    cases h2 with
    | cons h3 h4 =>
    cases h4
    cases dp_bool h1
    refine ⟨a, _, rfl, hS, rfl, ?_⟩
    walk_at "rd"
    refine ⟨_, _, ⟨rfl, rfl⟩, _, _, rfl, rfl, _, rfl, ?_⟩
    rw [if_pos rfl]
    exact erN q s1 h3
def spSteps (K : PySem.W.Frag) : Sp := fun vs H Q E => ∃ x y d i, vs = [x, y] ∧ Dp K H x d ∧ noL d = true ∧ okD d ∧ Dp K H y (.tuple [.tuple [.int i], .int 5, .int 5]) ∧
  (d = .tuple [] ∨ ∃ e, wantP d = .error e) ∧ EndD K H Q E (match wantP d with | .error e => .er e.1 e.2 | .ok _ => wantS [.tuple [.int 0]] i)
theorem H_steps_of (T : Tx P K mg) : Has P w K mg base 11 "steps_of" ["program", "state"] (spSteps K) := by
  refine T.d_steps_of.has sc_steps_of (fun _ _ _ _ _ _ us hl => match us, hl with | [_, _], _ => rfl) (fun vs H Q E h => by obtain ⟨_, _, _, _, rfl, _⟩ := h; rfl) (fun f cdv A outer s H vs Q E hr h => ⟨?t, ?b, ?rd⟩)
  case b =>
    refine' (pss_cons (ps_expr (pe_callQ (H_want_state T) (hr.mono (by omega)) pasX (pa_cons (pe_op op_cat (pe_callQ (H_want_program T) (hr.mono (by omega)) pasX (pa_cons (pv 0) pa_nil)) (pe_lst (pa_cons (pe_callQ (H_end_place T) (hr.mono (by omega)) pasX (pa_cons (pv 0) pa_nil)) pa_nil))) (pa_cons (pv 1) pa_nil))))
      (pss_one (ps_never)))
  case rd =>
  obtain ⟨x, y, d, i, rfl, hd, nl, ok, hy, hc, q⟩ := h
  walk_at "rd"
  refine ⟨x, d, rfl, hd, nl, ok, ?_⟩
  rcases hc with rfl | ⟨e, he⟩
  · refine (show EndL K H _ E (.ok []) from ?_)
    intro H1 p xs s1 hp hpl hA _ _
    cases hA
    refine ⟨x, [], rfl, hd.mv s1, fun H2 v s2 hv => ⟨Nat.le_of_lt (small1000 (by simp)), fun b hb => ?_⟩⟩
    have s3 : Same H2 (upd H2 b (.lst [v])) := Same.new hb
    refine ⟨p, b, [], [v], rfl, rfl, s3 _ _ (s2 _ _ hpl), upd_same, Nat.le_of_lt (small1000 (by simp)), fun p2 hp2 => ?_⟩
    have s4 : Same (upd H2 b (.lst [v])) (upd (upd H2 b (.lst [v])) p2 (.lst ([] ++ [v]))) := Same.new hp2
    have s5 := s1.trans (s2.trans (s3.trans s4))
    refine ⟨_, y, [.tuple [.int 0]], i, rfl, .lst (.inl (.inl upd_same)) (.cons (hv.mv (s3.trans s4)) .nil), hy.mv s5, by decide +kernel, ?_⟩
    have q2 := EndD.mv q s5
    have e1 : wantP (.tuple []) = .ok [] := rfl
    rw [e1] at q2
    unfold wantS at q2 ⊢
    split <;> rename_i c
    · rw [if_pos c] at q2; exact q2
    · rw [if_neg c] at q2; exact q2
  · rw [he] at q ⊢
    exact q
def spNext (K : PySem.W.Frag) : Sp := fun vs H Q E => ∃ x y d i, vs = [x, y] ∧ Dp K H x d ∧ noL d = true ∧ okD d ∧ Dp K H y (.tuple [.int i]) ∧
  (d = .tuple [] ∨ ∃ e, wantP d = .error e) ∧ EndD K H Q E (match wantP d with | .error e => .er e.1 e.2 | .ok _ => .er "BadPlace" (.tuple [.int i]))
theorem H_next_place (T : Tx P K mg) : Has P w K mg base 11 "next_place" ["program", "place"] (spNext K) := by
  refine T.d_next_place.has sc_next_place (fun _ _ _ _ _ _ us hl => match us, hl with | [_, _], _ => rfl) (fun vs H Q E h => by obtain ⟨_, _, _, _, rfl, _⟩ := h; rfl) (fun f cdv A outer s H vs Q E hr h => ⟨?t, ?b, ?rd⟩)
  case b =>
    refine' (pss_cons (ps_set (i := 2) sc_next_place.nd rfl (Or.inl rfl) (pe_callQ (H_want_program T) (hr.mono (by omega)) pasX (pa_cons (pv 0) pa_nil)))
      (pss_cons (ps_if (PW.pt (pw_or (pt_not (pt_val (pe_isD (K := K) (S := "tuple") (by decide) T.f_isinstance T.f_tuple (pv 1) (by decide +kernel)))) (pw_or (pt_not (pt_val (pe_callB (cr_allD (K := K) rfl) (by rfl) T.f_all PyProof.Rows.boot_all (pa_cons ?c1 pa_nil)))) (pw_or1 (pt_cmpR (op_niD (K := K) (un65 hr)) (pv 1) (pv 2) rfl))))) (pss_one (ps_raiseR rfl T.ref T.r_BadPlace T.g_BadPlace hr (takes_of rfl rfl rfl rfl) (pa_cons (pv 1) pa_nil))) pss_nil)
      (pss_cons (ps_never)
      (pss_one (ps_never)))))
    case c1 => exact (pe_lc (own := [("index", 3)]) (g := (gName 3)) (tt := tYes) rfl sc_next_place.nd (pi_tup (pv 1)) (blkOk_by (N := N_next_place) (sc := defScope s_next_place) (by decide +kernel)) (fun _ _ _ _ _ => (pg_name (i := 3) sc_next_place.nd rfl (Or.inl rfl))) (fun _ _ _ _ _ => pts_nil) (fun _ _ _ _ _ => (pe_callQ (H_is_number T) (hr.mono (by omega)) passL (pa_cons (pv 3) pa_nil))))
  case rd =>
  obtain ⟨x, y, d, i, rfl, hd, nl, ok, hy, hc, q⟩ := h
  walk_at "rd"
  refine ⟨x, d, rfl, hd, nl, ok, ?_⟩
  rcases hc with rfl | ⟨e, he⟩
  · refine (show EndL K H _ E (.ok []) from ?_)
    intro H1 p xs s1 hp hpl hA _ _
    cases hA
    have e1 : wantP (.tuple []) = .ok [] := rfl
    rw [e1] at q
    have hy1 := hy.mv s1
    refine ⟨y, _, rfl, hy1, ?_⟩
    rw [isD_tup, if_neg (fun z => by cases z)]
    rw [tLc_tup]
    obtain ⟨a1, us1, rfl, hS1, hA1⟩ := dp_tup hy1
    refine ⟨_, rfl, a1, rfl, ⟨_, hS1⟩, LC_tup (K := K) (fun e => .bool (isNum e)) hS1 hA1 (by simp) (fun _ _ => rfl) ?_ ?_⟩
    · rintro j e u H6 C hi s6 hu k
      walk_at "rd"
      refine ⟨u, e, rfl, hu, ?_⟩
      exact k _ _ (Same.refl _) (.bl _)
    · intro H2 p2 s2 hp2 hd2
      refine ⟨_, [true], rfl, hd2, ?_⟩
      refine ⟨_, rfl, ?_⟩
      rw [if_neg (by decide)]
      refine ⟨_, [], hy1.mv s2, .lst (.inl (.inl (s2 _ _ hpl))) .nil, rfl, by decide, _, rfl, ?_⟩
      rw [if_pos (by simp)]
      exact erN (Q := Q) (E := E) q (s1.trans s2) (hy1.mv s2)
  · rw [he] at q ⊢
    exact q

end
end An
namespace An
open PySem PySem.Spec PyProof.Rows L2
local macro_rules | `(tactic| walk_at "rd") => `(tactic| simp only [tSeq, tIfS, tRet, tRetN, tAndV, tOrV, tNotV, tCB, tCons, tVar, tC, tNil, rIsD, L2.start, tAnd, tOr, tNot, tB, tTest, tOp, tIf, tChain, tAsg, gName, gNil, gCons, tDrop, tCall, tNext, tFld, sFld, tRaiseR, tMkR, tSl, tPart, tNoPart, tBM, iTup, iList, iEnumT, tYes, tNever, cxOf, wipe, tPar, tPar3, tTup_eq, tLst_eq, rEq_str, rEq_int, rEq_bl, rNe_str, rNe_int, rI0_int, decide_eq_true_eq, Bool.not_eq_true',
  List.map_cons, List.map_nil, List.cons_append, List.nil_append, List.append_nil, List.getElem?_cons_zero, List.getElem?_cons_succ, Option.some.injEq, exists_eq_left', exists_eq_left, List.cons.injEq, and_true, true_and, List.set_cons_zero, List.set_cons_succ, V.bl.injEq, V.int.injEq, V.str.injEq, V.ref.injEq, V.ty.injEq, List.replicate, List.length_cons, List.length_nil, Nat.zero_add, Nat.reduceAdd, Nat.reduceSub, ite_true, ite_false, Bool.false_eq_true, if_false, if_true])
section
variable {P : Program} {w : World} {K : PySem.W.Frag} {mg : Str → Option Value} {base : Heap}

def isEr : Rz → Bool
  | .er _ _ => true
  | _ => false
def andR : Rz → Rz → Rz
  | .ok _, z => z
  | .er c w, _ => .er c w
def wantPR (d : PyData) : Rz := match wantP d with
  | .ok _ => .ok .none
  | .error e => .er e.1 e.2
theorem endEr {H : Hp} {Q Q' : VK} {E : XK} {z : Rz} (h : isEr z = true) (q : EndD K H Q E z) : EndD K H Q' E z := by
  cases z with
  | ok r => cases h
  | er c w => exact q
def spLeastSteps (K : PySem.W.Frag) : Sp := fun vs H Q E => ∃ x y d t, vs = [x, y] ∧ Dp K H x d ∧ noL d = true ∧ okD d ∧ Dp K H y t ∧ okD t ∧ isEr (andR (wantPR d) (wantT t)) = true ∧ EndD K H Q E (andR (wantPR d) (wantT t))
theorem H_least_steps (T : Tx P K mg) : Has P w K mg base 12 "least_steps" ["program", "table_"] (spLeastSteps K) := by
  refine T.d_least_steps.has sc_least_steps (fun _ _ _ _ _ _ us hl => match us, hl with | [_, _], _ => rfl) (fun vs H Q E h => by obtain ⟨_, _, _, _, rfl, _⟩ := h; rfl) (fun f cdv A outer s H vs Q E hr h => ⟨?t, ?b, ?rd⟩)
  case b =>
    refine' (pss_cons (ps_expr (pe_callQ (H_want_program T) (hr.mono (by omega)) pasX (pa_cons (pv 0) pa_nil)))
      (pss_cons (ps_expr (pe_callQ (H_want_table T) (hr.mono (by omega)) pasX (pa_cons (pv 1) pa_nil)))
      (pss_cons (ps_never)
      (pss_one (ps_never)))))
  case rd =>
  obtain ⟨x, y, d, t, rfl, hd, nl, ok, hy, ok2, er, q⟩ := h
  walk_at "rd"
  refine ⟨x, d, rfl, hd, nl, ok, ?_⟩
  unfold wantPR at q er
  cases e : wantP d with
  | error e => rw [e] at q; exact q
  | ok fd =>
    rw [e] at q er
    exact fun H1 p xs s1 _ _ _ _ _ => ⟨y, t, rfl, hy.mv s1, ok2, endEr er (EndD.mv q s1)⟩
def spBreaking (K : PySem.W.Frag) : Sp := fun vs H Q E => ∃ x y d t, vs = [x, y] ∧ Dp K H x d ∧ noL d = true ∧ okD d ∧ Dp K H y t ∧ okD t ∧ isEr (andR (wantPR d) (wantT t)) = true ∧ EndD K H Q E (andR (wantPR d) (wantT t))
theorem H_breaking (T : Tx P K mg) : Has P w K mg base 12 "breaking" ["program", "table_"] (spBreaking K) := by
  refine T.d_breaking.has sc_breaking (fun _ _ _ _ _ _ us hl => match us, hl with | [_, _], _ => rfl) (fun vs H Q E h => by obtain ⟨_, _, _, _, rfl, _⟩ := h; rfl) (fun f cdv A outer s H vs Q E hr h => ⟨?t, ?b, ?rd⟩)
  case b =>
    refine' (pss_cons (ps_expr (pe_callQ (H_want_program T) (hr.mono (by omega)) pasX (pa_cons (pv 0) pa_nil)))
      (pss_cons (ps_expr (pe_callQ (H_want_table T) (hr.mono (by omega)) pasX (pa_cons (pv 1) pa_nil)))
      (pss_cons (ps_never)
      (pss_cons (ps_never)
      (pss_cons (ps_never)
      (pss_one (ps_never)))))))
  case rd =>
  obtain ⟨x, y, d, t, rfl, hd, nl, ok, hy, ok2, er, q⟩ := h
  walk_at "rd"
  refine ⟨x, d, rfl, hd, nl, ok, ?_⟩
  unfold wantPR at q er
  cases e : wantP d with
  | error e => rw [e] at q; exact q
  | ok fd =>
    rw [e] at q er
    exact fun H1 p xs s1 _ _ _ _ _ => ⟨y, t, rfl, hy.mv s1, ok2, endEr er (EndD.mv q s1)⟩
def spToldRun (K : PySem.W.Frag) : Sp := fun vs H Q E => ∃ x y u d t, vs = [x, y, u] ∧ Dp K H x d ∧ noL d = true ∧ okD d ∧ Dp K H y t ∧ okD t ∧ isEr (andR (wantPR d) (wantT t)) = true ∧ EndD K H Q E (andR (wantPR d) (wantT t))
theorem H_told_run (T : Tx P K mg) : Has P w K mg base 12 "told_run" ["program", "table_", "choices"] (spToldRun K) := by
  refine T.d_told_run.has sc_told_run (fun _ _ _ _ _ _ us hl => match us, hl with | [_, _, _], _ => rfl) (fun vs H Q E h => by obtain ⟨_, _, _, _, _, rfl, _⟩ := h; rfl) (fun f cdv A outer s H vs Q E hr h => ⟨?t, ?b, ?rd⟩)
  case b =>
    refine' (pss_cons (ps_expr (pe_callQ (H_want_program T) (hr.mono (by omega)) pasX (pa_cons (pv 0) pa_nil)))
      (pss_cons (ps_expr (pe_callQ (H_want_table T) (hr.mono (by omega)) pasX (pa_cons (pv 1) pa_nil)))
      (pss_cons (ps_never)
      (pss_cons (ps_never)
      (pss_cons (ps_never)
      (pss_cons (ps_never)
      (pss_one (ps_never))))))))
  case rd =>
  obtain ⟨x, y, u, d, t, rfl, hd, nl, ok, hy, ok2, er, q⟩ := h
  walk_at "rd"
  refine ⟨x, d, rfl, hd, nl, ok, ?_⟩
  unfold wantPR at q er
  cases e : wantP d with
  | error e => rw [e] at q; exact q
  | ok fd =>
    rw [e] at q er
    exact fun H1 p xs s1 _ _ _ _ _ => ⟨y, t, rfl, hy.mv s1, ok2, endEr er (EndD.mv q s1)⟩
def spRun (K : PySem.W.Frag) : Sp := fun vs H Q E => ∃ x y c t, vs = [x, y] ∧ Dp K H x (.tuple c) ∧ okD (.tuple c) ∧ Dp K H y (.tuple t) ∧ isEr (andR (wantK c) (wantC t.length)) = true ∧ EndD K H Q E (andR (wantK c) (wantC t.length))
theorem H_run (T : Tx P K mg) : Has P w K mg base 12 "run" ["code", "choices"] (spRun K) := by
  refine T.d_run.has sc_run (fun _ _ _ _ _ _ us hl => match us, hl with | [_, _], _ => rfl) (fun vs H Q E h => by obtain ⟨_, _, _, _, rfl, _⟩ := h; rfl) (fun f cdv A outer s H vs Q E hr h => ⟨?t, ?b, ?rd⟩)
  case b =>
    refine' (pss_cons (ps_expr (pe_callQ (H_want_code T) (hr.mono (by omega)) pasX (pa_cons (pv 0) pa_nil)))
      (pss_cons (ps_expr (pe_callQ (H_want_choices T) (hr.mono (by omega)) pasX (pa_cons (pv 1) pa_nil)))
      (pss_cons (ps_never)
      (pss_cons (ps_never)
      (pss_cons (ps_never)
      (pss_cons (ps_never)
      (pss_cons (ps_never)
      (pss_one (ps_never)))))))))
  case rd =>
  obtain ⟨x, y, c, t, rfl, hd, ok, hy, er, q⟩ := h
  walk_at "rd"
  refine ⟨x, c, rfl, hd, ok, ?_⟩
  cases e : wantK c with
  | er c w => rw [e] at q; exact q
  | ok fd =>
    rw [e] at q er
    exact fun H1 v s1 _ => ⟨y, t, rfl, .inl (hy.mv s1), endEr er (EndD.mv q s1)⟩
def spWatch (K : PySem.W.Frag) : Sp := fun vs H Q E => ∃ x y u c t, vs = [x, y, u] ∧ Dp K H x (.tuple c) ∧ okD (.tuple c) ∧ Dp K H y t ∧ okD t ∧ isEr (andR (wantK c) (wantT t)) = true ∧ EndD K H Q E (andR (wantK c) (wantT t))
theorem H_watch (T : Tx P K mg) : Has P w K mg base 12 "watch" ["code", "table_", "choices"] (spWatch K) := by
  refine T.d_watch.has sc_watch (fun _ _ _ _ _ _ us hl => match us, hl with | [_, _, _], _ => rfl) (fun vs H Q E h => by obtain ⟨_, _, _, _, _, rfl, _⟩ := h; rfl) (fun f cdv A outer s H vs Q E hr h => ⟨?t, ?b, ?rd⟩)
  case b =>
    refine' (pss_cons (ps_expr (pe_callQ (H_want_code T) (hr.mono (by omega)) pasX (pa_cons (pv 0) pa_nil)))
      (pss_cons (ps_expr (pe_callQ (H_want_table T) (hr.mono (by omega)) pasX (pa_cons (pv 1) pa_nil)))
      (pss_cons (ps_never)
      (pss_cons (ps_never)
      (pss_cons (ps_never)
      (pss_cons (ps_never)
      (pss_cons (ps_never)
      (pss_one (ps_never)))))))))
  case rd =>
  obtain ⟨x, y, u, c, t, rfl, hd, ok, hy, ok2, er, q⟩ := h
  walk_at "rd"
  refine ⟨x, c, rfl, hd, ok, ?_⟩
  cases e : wantK c with
  | er c w => rw [e] at q; exact q
  | ok fd =>
    rw [e] at q er
    exact fun H1 v s1 _ => ⟨y, t, rfl, hy.mv s1, ok2, endEr er (EndD.mv q s1)⟩
def spWordsOf (K : PySem.W.Frag) : Sp := fun vs H Q E => ∃ x y d t, vs = [x, y] ∧ Dp K H x d ∧ noL d = true ∧ okD d ∧ Dp K H y t ∧ noL t = true ∧ okD t ∧ isEr (andR (wantPR d) (wantPR t)) = true ∧ EndD K H Q E (andR (wantPR d) (wantPR t))
theorem H_words_of (T : Tx P K mg) : Has P w K mg base 12 "words_of" ["one", "two"] (spWordsOf K) := by
  refine T.d_words_of.has sc_words_of (fun _ _ _ _ _ _ us hl => match us, hl with | [_, _], _ => rfl) (fun vs H Q E h => by obtain ⟨_, _, _, _, rfl, _⟩ := h; rfl) (fun f cdv A outer s H vs Q E hr h => ⟨?t, ?b, ?rd⟩)
  case b =>
    refine' (pss_cons (ps_expr (pe_callQ (H_want_program T) (hr.mono (by omega)) pasX (pa_cons (pv 0) pa_nil)))
      (pss_cons (ps_expr (pe_callQ (H_want_program T) (hr.mono (by omega)) pasX (pa_cons (pv 1) pa_nil)))
      (pss_one (ps_never))))
  case rd =>
  obtain ⟨x, y, d, t, rfl, hd, nl, ok, hy, nl2, ok2, er, q⟩ := h
  walk_at "rd"
  refine ⟨x, d, rfl, hd, nl, ok, ?_⟩
  unfold wantPR at q er
  cases e : wantP d with
  | error e => rw [e] at q; exact q
  | ok fd =>
    rw [e] at q er
    refine fun H1 p xs s1 _ _ _ _ _ => ⟨y, t, rfl, hy.mv s1, nl2, ok2, ?_⟩
    have q2 := EndD.mv q s1
    cases e2 : wantP t with
    | error e => rw [e2] at q2; exact q2
    | ok fd => rw [e2] at er; cases er
theorem H_parting (T : Tx P K mg) : Has P w K mg base 13 "parting" ["one", "two"] (spWordsOf K) := by
  refine T.d_parting.has sc_parting (fun _ _ _ _ _ _ us hl => match us, hl with | [_, _], _ => rfl) (fun vs H Q E h => by obtain ⟨_, _, _, _, rfl, _⟩ := h; rfl) (fun f cdv A outer s H vs Q E hr h => ⟨?t, ?b, ?rd⟩)
  case b =>
    refine' (pss_cons (ps_asg (pe_callQ (H_words_of T) (hr.mono (by omega)) pasX (pa_cons (pv 0) (pa_cons (pv 1) pa_nil))) (pg_tup (by rfl) (pgs_cons (pg_name (i := 2) sc_parting.nd rfl (Or.inl rfl)) (pgs_cons (pg_name (i := 3) sc_parting.nd rfl (Or.inl rfl)) pgs_nil))))
      (pss_cons (ps_never)
      (pss_one (ps_never))))
  case rd =>
  walk_at "rd"
  obtain ⟨x, y, d, t, rfl, hd, nl, ok, hy, nl2, ok2, er, q⟩ := h
  refine ⟨_, rfl, _, rfl, ?_⟩
  exact ⟨x, y, d, t, rfl, hd, nl, ok, hy, nl2, ok2, er, endEr er q⟩
theorem H_alike (T : Tx P K mg) : Has P w K mg base 14 "alike" ["one", "two"] (spWordsOf K) := by
  refine T.d_alike.has sc_alike (fun _ _ _ _ _ _ us hl => match us, hl with | [_, _], _ => rfl) (fun vs H Q E h => by obtain ⟨_, _, _, _, rfl, _⟩ := h; rfl) (fun f cdv A outer s H vs Q E hr h => ⟨?t, ?b, ?rd⟩)
  case b =>
    refine' (pss_one (ps_ret (pe_cmpR op_isN (pe_callQ (H_parting T) (hr.mono (by omega)) pasX (pa_cons (pv 0) (pa_cons (pv 1) pa_nil))) pe_non (nomark _))))
  case rd =>
  walk_at "rd"
  obtain ⟨x, y, d, t, rfl, hd, nl, ok, hy, nl2, ok2, er, q⟩ := h
  refine ⟨_, rfl, _, rfl, ?_⟩
  exact ⟨x, y, d, t, rfl, hd, nl, ok, hy, nl2, ok2, er, endEr er q⟩

end
end An
namespace An
open PySem PySem.Spec PyProof.Rows L2
local macro_rules | `(tactic| walk_at "rd") => `(tactic| simp only [tSeq, tIfS, tRet, tRetN, tAndV, tOrV, tNotV, tCB, tCons, tVar, tC, tNil, rIsD, L2.start, tAnd, tOr, tNot, tB, tTest, tOp, tIf, tChain, tAsg, gName, gNil, gCons, tDrop, tCall, tNext, tFld, sFld, tRaiseR, tMkR, tSl, tPart, tNoPart, tBM, iTup, iList, iEnumT, tYes, tNever, cxOf, wipe, tPar, tPar3, tTup_eq, tLst_eq, rEq_str, rEq_int, rEq_bl, rNe_str, rNe_int, rI0_int, decide_eq_true_eq, Bool.not_eq_true',
  List.map_cons, List.map_nil, List.cons_append, List.nil_append, List.append_nil, List.getElem?_cons_zero, List.getElem?_cons_succ, Option.some.injEq, exists_eq_left', exists_eq_left, List.cons.injEq, and_true, true_and, List.set_cons_zero, List.set_cons_succ, V.bl.injEq, V.int.injEq, V.str.injEq, V.ref.injEq, V.ty.injEq, List.replicate, List.length_cons, List.length_nil, Nat.zero_add, Nat.reduceAdd, Nat.reduceSub, ite_true, ite_false, Bool.false_eq_true, if_false, if_true])
section
variable {P : Program} {w : World} {K : PySem.W.Frag} {mg : Str → Option Value} {base : Heap}

theorem putF_le {f : Str} {y : V} {fs : List (Str × V)} {n : Nat} (h : fs.length ≤ n) : (putF f y fs).length ≤ n + 1 := Nat.le_trans (length_putF f y fs) (by omega)
/-- a class with its __init__ -/
structure ClsX (K : PySem.W.Frag) (mg : Str → Option Value) (c q : Str) (st : Stmt) : Prop where
  g : mg c = some (.ref (He.ga K c))
  mkr : Mk K (He.ga K c) (He.ma K (He.ga K c) "__init__")
  fn : ∃ fd, Fun K "__init__" q st (He.ma K (He.ga K c) "__init__") fd
  cl : Cls K (He.ga K c)
/-- what the top has left of classes -/
structure Tcl (K : PySem.W.Frag) (mg : Str → Option Value) : Prop where
  c_Scene : ClsX K mg "Scene" "Scene.__init__" s_Scene_init
  n_Scene_events : NoAttr K (He.ga K "Scene") "events"
  n_Scene_steps : NoAttr K (He.ga K "Scene") "steps"
  n_Scene_made : NoAttr K (He.ga K "Scene") "made"
  n_Scene_names : NoAttr K (He.ga K "Scene") "names"
  n_Scene_piles : NoAttr K (He.ga K "Scene") "piles"
  c_Going : ClsX K mg "Going" "Going.__init__" s_Going_init
  n_Going_scene : NoAttr K (He.ga K "Going") "scene"
  n_Going_place : NoAttr K (He.ga K "Going") "place"
  n_Going_bad : NoAttr K (He.ga K "Going") "bad"
  n_Going_is_full : NoAttr K (He.ga K "Going") "is_full"
  c_Told : ClsX K mg "Told" "Told.__init__" s_Told_init
  n_Told_moves : NoAttr K (He.ga K "Told") "moves"
  n_Told_marks : NoAttr K (He.ga K "Told") "marks"
  c_Breaking : ClsX K mg "Breaking" "Breaking.__init__" s_Breaking_init
  n_Breaking_one : NoAttr K (He.ga K "Breaking") "one"
  c_Book : ClsX K mg "Book" "Book.__init__" s_Book_init
def HasI (P : Program) (w : World) (K : PySem.W.Frag) (mg : Str → Option Value) (base : Heap) (k : Nat) (c : Str) (ps : List Str) (sp : Sp) : Prop :=
  ∃ f fd, mg c = some (.ref (He.ga K c)) ∧ Mk K (He.ga K c) f ∧ Binds K fd ps [] ∧ FnOk P w K mg base (L2.CX P w) k f fd ps sp
theorem ClsX.has {c q : Str} {st : Stmt} {N ps : List Str} {k : Nat} {sp : Sp} (D : ClsX K mg c q st) (S : FnScope N ps (defScope st))
    (hb : ∀ (kV doc pm : Value) (an : Option Addr) (cdv ct : Value) (us : List Value), us.length = ps.length → bindArgs (PySem.W.fnOf "__init__" q (defArgs st) (defBody st) (defScope st) .none kV doc pm an cdv ct) ⟨us, []⟩ = pure (ps.zip us))
    (len : ∀ vs H Q E, sp vs H Q E → vs.length = ps.length)
    (hbody : ∀ (f : Addr) (cdv : Value) (A : Around) (outer : List Env) (s : Shared) (H : Hp) (vs : List V) (Q : VK) (E : XK), Room k (A.deeper (envOfC q (defScope st) s.heap.objs.size f cdv)) → sp vs H Q E →
      ∃ t, PSs (cxOf (L2.CX P w) P w K mg base N q (defScope st) f cdv A outer s H E) (defBody st) t ∧ t { nx := fun _ H' => Q .non H', rt := Q } (start N vs) H) : HasI P w K mg base (k + 1) c ps sp := by
  obtain ⟨fd, F⟩ := D.fn
  exact ⟨_, fd, D.g, D.mkr, F.binds hb, F.okX S len (hbody _)⟩
section
variable {X : Cx} {c : Str} {k : Nat} {ps : List Str} {sp : Sp} {E : XK} {e : Expr} {es : List Expr} {t : TA} {p pos : Pos}
theorem pe_makeH (h : HasI X.prog X.w X.K X.mg X.base k c ps sp) (hr : Room (k + 1) X.A) (hx : Passes (L2.CX X.prog X.w) X E) (ha : PA X (e :: es) t) (hg : Gl X c := by rfl) (hd : (c == ("__debug__" : Str)) = false := by decide)
    (hs : starEach (e :: es) X.env = (false, eval e X.env) :: starEach es X.env := by rfl) (hp : (backTo pos (starEach es X.env)).any (·.1) = false := by rfl) :
    PE X (.Call (.Name c p) (e :: es) [] pos) (tMake (He.ga X.K c) sp [] E t) := by
  obtain ⟨f, fd, a, b, c, d⟩ := h
  exact pe_make b d hr hg a c .nil hx ha hd hs hp
theorem pe_makeH0 (h : HasI X.prog X.w X.K X.mg X.base k c ps sp) (hr : Room (k + 1) X.A) (hx : Passes (L2.CX X.prog X.w) X E) (hg : Gl X c := by rfl) (hd : (c == ("__debug__" : Str)) = false := by decide) :
    PE X (.Call (.Name c p) [] [] pos) (tMake (He.ga X.K c) sp [] E tNil) := by
  obtain ⟨f, fd, a, b, c, d⟩ := h
  exact pe_make0 b d hr hg a c .nil hx hd
end
def spGoingI (K : PySem.W.Frag) : Sp := fun vs H Q _ => ∃ x dx v0 v1 v2 v3, vs = [.ref x, v0, v1, v2, v3] ∧ H x = some (.ins (He.ga K "Going") dx []) ∧ Q .non (upd H x (.ins (He.ga K "Going") dx (putF "is_full" v3 (putF "bad" v2 (putF "place" v1 (putF "scene" v0 []))))))
theorem I_Going (T : Tx P K mg) (U : Tcl K mg) : HasI P w K mg base 1 "Going" ["self", "scene", "place", "bad", "is_full"] (spGoingI K) := by
  refine U.c_Going.has sc_Going_init (fun _ _ _ _ _ _ us hl => match us, hl with | [_, _, _, _, _], _ => rfl) (fun vs H Q E h => by obtain ⟨_, _, _, _, _, _, rfl, _⟩ := h; rfl) (fun f cdv A outer s H vs Q E hr h => ⟨?t, ?b, ?rd⟩)
  case b =>
    refine' (pss_cons (ps_fld (pv 0) (pv 1) rfl)
  (pss_cons (ps_fld (pv 0) (pv 2) rfl)
  (pss_cons (ps_fld (pv 0) (pv 3) rfl)
  (pss_one (ps_fld (pv 0) (pv 4) rfl)))))
  case rd =>
    obtain ⟨x, dx, v0, v1, v2, v3, rfl, hx, q⟩ := h
    walk_at "rd"
    refine ⟨_, _, _, _, rfl, hx, U.c_Going.cl, U.n_Going_scene, Nat.lt_of_le_of_lt (Nat.le_refl 0) (by decide : 0 < 1000), ?_⟩
    refine ⟨_, _, _, _, rfl, upd_same, U.c_Going.cl, U.n_Going_place, Nat.lt_of_le_of_lt (putF_le (Nat.le_refl 0)) (by decide : 1 < 1000), ?_⟩
    refine ⟨_, _, _, _, rfl, upd_same, U.c_Going.cl, U.n_Going_bad, Nat.lt_of_le_of_lt (putF_le (putF_le (Nat.le_refl 0))) (by decide : 2 < 1000), ?_⟩
    refine ⟨_, _, _, _, rfl, upd_same, U.c_Going.cl, U.n_Going_is_full, Nat.lt_of_le_of_lt (putF_le (putF_le (putF_le (Nat.le_refl 0)))) (by decide : 3 < 1000), ?_⟩
    simp only [upd_upd]
    exact q
def spToldI (K : PySem.W.Frag) : Sp := fun vs H Q _ => ∃ x dx v0 v1, vs = [.ref x, v0, v1] ∧ H x = some (.ins (He.ga K "Told") dx []) ∧ Q .non (upd H x (.ins (He.ga K "Told") dx (putF "marks" v1 (putF "moves" v0 []))))
theorem I_Told (T : Tx P K mg) (U : Tcl K mg) : HasI P w K mg base 1 "Told" ["self", "moves", "marks"] (spToldI K) := by
  refine U.c_Told.has sc_Told_init (fun _ _ _ _ _ _ us hl => match us, hl with | [_, _, _], _ => rfl) (fun vs H Q E h => by obtain ⟨_, _, _, _, rfl, _⟩ := h; rfl) (fun f cdv A outer s H vs Q E hr h => ⟨?t, ?b, ?rd⟩)
  case b =>
    refine' (pss_cons (ps_fld (pv 0) (pv 1) rfl)
  (pss_one (ps_fld (pv 0) (pv 2) rfl)))
  case rd =>
    obtain ⟨x, dx, v0, v1, rfl, hx, q⟩ := h
    walk_at "rd"
    refine ⟨_, _, _, _, rfl, hx, U.c_Told.cl, U.n_Told_moves, Nat.lt_of_le_of_lt (Nat.le_refl 0) (by decide : 0 < 1000), ?_⟩
    refine ⟨_, _, _, _, rfl, upd_same, U.c_Told.cl, U.n_Told_marks, Nat.lt_of_le_of_lt (putF_le (Nat.le_refl 0)) (by decide : 1 < 1000), ?_⟩
    simp only [upd_upd]
    exact q
def spBreakingI (K : PySem.W.Frag) : Sp := fun vs H Q _ => ∃ x dx v0, vs = [.ref x, v0] ∧ H x = some (.ins (He.ga K "Breaking") dx []) ∧ Q .non (upd H x (.ins (He.ga K "Breaking") dx (putF "one" v0 [])))
theorem I_Breaking (T : Tx P K mg) (U : Tcl K mg) : HasI P w K mg base 1 "Breaking" ["self", "one"] (spBreakingI K) := by
  refine U.c_Breaking.has sc_Breaking_init (fun _ _ _ _ _ _ us hl => match us, hl with | [_, _], _ => rfl) (fun vs H Q E h => by obtain ⟨_, _, _, rfl, _⟩ := h; rfl) (fun f cdv A outer s H vs Q E hr h => ⟨?t, ?b, ?rd⟩)
  case b =>
    refine' (pss_one (ps_fld (pv 0) (pv 1) rfl))
  case rd =>
    obtain ⟨x, dx, v0, rfl, hx, q⟩ := h
    walk_at "rd"
    refine ⟨_, _, _, _, rfl, hx, U.c_Breaking.cl, U.n_Breaking_one, Nat.lt_of_le_of_lt (Nat.le_refl 0) (by decide : 0 < 1000), ?_⟩
    exact q
def spBookI (K : PySem.W.Frag) : Sp := fun vs H Q E => ∃ x y z d ts, vs = [x, y, z] ∧ Dp K H y d ∧ noL d = true ∧ okD d ∧ Dp K H z (.tuple ts) ∧ 8 < ts.length ∧ EndD K H Q E (andR (wantPR d) (.er "TooMany" (.int ts.length)))
theorem I_Book (T : Tx P K mg) (U : Tcl K mg) : HasI P w K mg base 12 "Book" ["self", "program", "tables"] (spBookI K) := by
  refine U.c_Book.has sc_Book_init (fun _ _ _ _ _ _ us hl => match us, hl with | [_, _, _], _ => rfl) (fun vs H Q E h => by obtain ⟨_, _, _, _, _, rfl, _⟩ := h; rfl) (fun f cdv A outer s H vs Q E hr h => ⟨?t, ?b, ?rd⟩)
  case b =>
    refine' (pss_cons (ps_expr (pe_callQ (H_want_program T) (hr.mono (by omega)) pasX (pa_cons (pv 1) pa_nil)))
      (pss_cons (ps_if (pt_cmpR op_gt (pe_callB (call_lnD (K := K)) (by rfl) T.f_len PySem.boot_len (pa_cons (pv 2) pa_nil)) (pe_gint T.g_MOST_TABLES) (nomark _)) (pss_one (ps_raiseR rfl T.ref T.r_TooMany T.g_TooMany hr (takes_of rfl rfl rfl rfl) (pa_cons (pe_callB (call_lnD (K := K)) (by rfl) T.f_len PySem.boot_len (pa_cons (pv 2) pa_nil)) pa_nil))) pss_nil)
      (pss_cons (ps_never)
      (pss_cons (ps_never)
      (pss_cons (ps_never)
      (pss_cons (ps_never)
      (pss_one (ps_never))))))))
  case rd =>
    obtain ⟨x, y, z, d, ts, rfl, hd, nl, ok, hz, hlen, q⟩ := h
    walk_at "rd"
    refine ⟨y, d, rfl, hd, nl, ok, ?_⟩
    unfold wantPR at q
    cases e : wantP d with
    | error e => rw [e] at q; exact q
    | ok fd =>
      rw [e] at q
      refine fun H1 p xs s1 _ _ _ _ _ => ⟨z, ts, rfl, .inl (hz.mv s1), ?_⟩
      dsimp only
      rw [rI0_int]
      refine ⟨_, rfl, ?_⟩
      rw [if_pos (by simp; omega)]
      refine ⟨z, ts, rfl, .inl (hz.mv s1), ?_⟩
      exact erN (Q := Q) (E := E) q s1 (.int _)

end
end An
namespace An
open PySem PySem.Spec PyProof.Rows L2
local macro_rules | `(tactic| walk_at "rd") => `(tactic| simp only [tSeq, tIfS, tRet, tRetN, tAndV, tOrV, tNotV, tCB, tCons, tVar, tC, tNil, rIsD, L2.start, tAnd, tOr, tNot, tB, tTest, tOp, tIf, tChain, tAsg, gName, gNil, gCons, tDrop, tCall, tNext, tFld, sFld, tRaiseR, tMkR, tSl, tPart, tNoPart, tBM, iTup, iList, iEnumT, tYes, tNever, cxOf, wipe, tPar, tPar3, tTup_eq, tLst_eq, rEq_str, rEq_int, rEq_bl, rNe_str, rNe_int, rI0_int, decide_eq_true_eq, Bool.not_eq_true',
  List.map_cons, List.map_nil, List.cons_append, List.nil_append, List.append_nil, List.getElem?_cons_zero, List.getElem?_cons_succ, Option.some.injEq, exists_eq_left', exists_eq_left, List.cons.injEq, and_true, true_and, List.set_cons_zero, List.set_cons_succ, V.bl.injEq, V.int.injEq, V.str.injEq, V.ref.injEq, V.ty.injEq, List.replicate, List.length_cons, List.length_nil, Nat.zero_add, Nat.reduceAdd, Nat.reduceSub, ite_true, ite_false, Bool.false_eq_true, if_false, if_true])
section
variable {P : Program} {w : World} {K : PySem.W.Frag} {mg : Str → Option Value} {base : Heap}

theorem SameB.none {x a : Addr} {H H' : Hp} {o : HO} (s : SameB x H H') (e : H' x = some o) (n : H' a = none) : H a = none := by
  cases h : H a with
  | none => rfl
  | some u =>
    have nx : a ≠ x := fun z => by rw [z, e] at n; cases n
    rw [s _ _ nx h] at n
    cases n
theorem tYes_if {σ : L2.St} {H : Hp} {A B : Hp → Prop} (h : A H) : tYes σ H fun b H3 => if b = true then A H3 else B H3 := by
  show (if true = true then A H else B H)
  rw [if_pos rfl]
  exact h
/-- a Scene's fields -/
def scF (e s m n p : V) : List (Str × V) := putF "piles" p (putF "names" n (putF "made" m (putF "steps" s (putF "events" e []))))
def nmK : List (Key × V) := [(.inr "a", .non), (.inr "b", .non), (.inr "c", .non), (.inr "d", .non)]
def spSceneI (K : PySem.W.Frag) : Sp := fun vs H Q _ => ∃ x dx, vs = [.ref x] ∧ H x = some (.ins (He.ga K "Scene") dx []) ∧
  ∀ H' e n p l1 l2, SameB x H H' → H' x = some (.ins (He.ga K "Scene") dx (scF (.ref e) (.int 0) (.int 0) (.ref n) (.ref p))) → H e = none → H n = none → H p = none → H l1 = none → H l2 = none → l1 ≠ l2 → e ≠ l1 → e ≠ l2 →
    H' e = some (.lst []) → H' n = some (.dK nmK) → H' p = some (.dK [(.inr "p", .ref l1), (.inr "q", .ref l2)]) → H' l1 = some (.lst []) → H' l2 = some (.lst []) → Q .non H'
theorem I_Scene (T : Tx P K mg) (U : Tcl K mg) : HasI P w K mg base 1 "Scene" ["self"] (spSceneI K) := by
  refine U.c_Scene.has sc_Scene_init (fun _ _ _ _ _ _ us hl => match us, hl with | [_], _ => rfl) (fun vs H Q E h => by obtain ⟨_, _, rfl, _⟩ := h; rfl) (fun f cdv A outer s H vs Q E hr h => ⟨?t, ?b, ?rd⟩)
  case b =>
    refine' (pss_cons (ps_fld (pv 0) (pe_lst pa_nil) rfl)
  (pss_cons (ps_fld (pv 0) pe_int rfl)
  (pss_cons (ps_fld (pv 0) pe_int rfl)
  (pss_cons (ps_fld (pv 0) ?c1 rfl)
  (pss_one (ps_fld (pv 0) ?c2 rfl))))))
    case c1 => exact (pe_dc (own := [("name", 1)]) (g := (gName 1)) (tt := tYes) rfl sc_Scene_init.nd (pi_tup (pe_gref T.g_NAMES)) (blkOk_by (N := N_Scene_init) (sc := defScope s_Scene_init) (by decide +kernel)) (fun _ _ _ _ _ => (pg_name (i := 1) sc_Scene_init.nd rfl (Or.inl rfl))) (fun _ _ _ _ _ => pts_nil) (fun _ _ _ _ _ => (pv 1)) (fun _ _ _ _ _ => pe_non))
    case c2 => exact (pe_dc (own := [("pile", 2)]) (g := (gName 2)) (tt := tYes) rfl sc_Scene_init.nd (pi_tup (pe_gref T.g_PILES)) (blkOk_by (N := N_Scene_init) (sc := defScope s_Scene_init) (by decide +kernel)) (fun _ _ _ _ _ => (pg_name (i := 2) sc_Scene_init.nd rfl (Or.inl rfl))) (fun _ _ _ _ _ => pts_nil) (fun _ _ _ _ _ => (pv 2)) (fun _ _ _ _ _ => (pe_lst pa_nil)))
  case rd =>
    obtain ⟨x, dx, rfl, hx, q⟩ := h
    walk_at "rd"
    refine ⟨Nat.zero_le _, fun e he => ?_⟩
    have nxe : x ≠ e := fun z => by rw [z, he] at hx; cases hx
    refine ⟨_, _, _, _, rfl, (by rw [upd_ne nxe]; exact hx), U.c_Scene.cl, U.n_Scene_events, (by decide), _, _, _, _, rfl, upd_same, U.c_Scene.cl, U.n_Scene_steps, Nat.lt_of_le_of_lt (putF_le (Nat.le_refl 0)) (by decide : 1 < 1000), _, _, _, _, rfl, upd_same, U.c_Scene.cl, U.n_Scene_made, Nat.lt_of_le_of_lt (putF_le (putF_le (Nat.le_refl 0))) (by decide : 2 < 1000), ?_⟩
    simp only [upd_upd]
    have s3 : SameB x H (upd (upd H e (.lst [])) x (.ins (He.ga K "Scene") dx (putF "made" (.int 0) (putF "steps" (.int 0) (putF "events" (.ref e) []))))) := fun b u n hb => by
      rw [upd_ne n, upd_ne (ne_of_none hb he)]
      exact hb
    have x3 : (upd (upd H e (.lst [])) x (.ins (He.ga K "Scene") dx (putF "made" (.int 0) (putF "steps" (.int 0) (putF "events" (.ref e) []))))) x = some (.ins (He.ga K "Scene") dx (putF "made" (.int 0) (putF "steps" (.int 0) (putF "events" (.ref e) [])))) := upd_same
    have e3 : (upd (upd H e (.lst [])) x (.ins (He.ga K "Scene") dx (putF "made" (.int 0) (putF "steps" (.int 0) (putF "events" (.ref e) []))))) e = some (.lst []) := by
      rw [upd_ne nxe.symm, upd_same]
    generalize upd (upd H e (.lst [])) x (.ins (He.ga K "Scene") dx (putF "made" (.int 0) (putF "steps" (.int 0) (putF "events" (.ref e) [])))) = H3 at *
    refine ⟨_, rfl, ⟨_, T.t_NAMES _⟩, fun n hn => dc_tup (K := K) (a := He.ga K "NAMES") (xs := [V.str "a", V.str "b", V.str "c", V.str "d"]) (fun i H' => Same H3 H' ∧ H' n = some (.dK (nmK.take i))) ⟨Same.new hn, upd_same⟩ (fun i H' _ _ => T.t_NAMES H') ?_ ?_⟩
    · rintro i y H' hy ⟨s4, hD⟩
      have key : ∀ (j : Nat) (z : Str), i = j → y = .str z → (nmK.take j).length < sizeLine → putK (nmK.take j) (.inr z) .non = nmK.take (j + 1) → gName 1 y (wipe [some (V.ref x), none, none] [1]) H' fun σ2 H2 => wipe σ2 [1] = wipe [some (V.ref x), none, none] [1] ∧ tYes σ2 H2 fun b H3' =>
          if b = true then (tVar 1) σ2 H3' fun y H4 => (tC .non) σ2 H4 fun z H5 => ∃ kvs k, y = kV k ∧ H5 n = some (.dK kvs) ∧ kvs.length < sizeLine ∧ Same H3 (upd H5 n (.dK (putK kvs k z))) ∧ (upd H5 n (.dK (putK kvs k z))) n = some (.dK (nmK.take (i + 1))) else Same H3 H3' ∧ H3' n = some (.dK (nmK.take (i + 1))) := fun j z e1 e2 e3 e4 => by
        subst e1 e2
        walk_at "rd"
        refine ⟨_, .inr z, rfl, hD, e3, fun b u hb => ?_, ?_⟩
        · rw [upd_ne (ne_of_none hb hn)]
          exact s4 _ _ hb
        · rw [upd_same, e4]
      match i, hy with
      | 0, hy => exact key 0 "a" rfl (Option.some.inj hy).symm (by decide) (by decide +kernel)
      | 1, hy => exact key 1 "b" rfl (Option.some.inj hy).symm (by decide) (by decide +kernel)
      | 2, hy => exact key 2 "c" rfl (Option.some.inj hy).symm (by decide) (by decide +kernel)
      | 3, hy => exact key 3 "d" rfl (Option.some.inj hy).symm (by decide) (by decide +kernel)
      | _ + 4, hy => simp at hy
    · rintro H4 ⟨s4, hD⟩
      refine ⟨_, _, _, _, rfl, s4 _ _ x3, U.c_Scene.cl, U.n_Scene_names, Nat.lt_of_le_of_lt (putF_le (putF_le (putF_le (Nat.le_refl 0)))) (by decide : 3 < 1000), ?_⟩
      have nnx : n ≠ x := fun z => by rw [z, x3] at hn; cases hn
      have nex : e ≠ x := nxe.symm
      have nen : e ≠ n := fun z => by rw [z, hn] at e3; cases e3
      have hD' : H4 n = some (.dK nmK) := hD
      have s5 : SameB x H3 (upd H4 x (.ins (He.ga K "Scene") dx (putF "names" (.ref n) (putF "made" (.int 0) (putF "steps" (.int 0) (putF "events" (.ref e) [])))))) := (SameB.of s4).trans SameB.upd
      have x5 : (upd H4 x (.ins (He.ga K "Scene") dx (putF "names" (.ref n) (putF "made" (.int 0) (putF "steps" (.int 0) (putF "events" (.ref e) [])))))) x = some (.ins (He.ga K "Scene") dx (putF "names" (.ref n) (putF "made" (.int 0) (putF "steps" (.int 0) (putF "events" (.ref e) []))))) := upd_same
      have n5 : (upd H4 x (.ins (He.ga K "Scene") dx (putF "names" (.ref n) (putF "made" (.int 0) (putF "steps" (.int 0) (putF "events" (.ref e) [])))))) n = some (.dK nmK) := by rw [upd_ne nnx]; exact hD'
      generalize upd H4 x (.ins (He.ga K "Scene") dx (putF "names" (.ref n) (putF "made" (.int 0) (putF "steps" (.int 0) (putF "events" (.ref e) []))))) = H5 at *
      have e5 := s5 _ _ nex e3
      have s05 := s3.trans s5
      refine ⟨_, rfl, ⟨_, T.t_PILES _⟩, fun p hp => dc_tup (K := K) (a := He.ga K "PILES") (xs := [V.str "p", V.str "q"]) (fun i H' => Same H5 H' ∧ ((i = 0 ∧ H' p = some (.dK [])) ∨ (i = 1 ∧ ∃ l1, H5 l1 = none ∧ l1 ≠ p ∧ H' p = some (.dK [(.inr "p", .ref l1)]) ∧ H' l1 = some (.lst []))
          ∨ (i = 2 ∧ ∃ l1 l2, H5 l1 = none ∧ H5 l2 = none ∧ l1 ≠ l2 ∧ H' p = some (.dK [(.inr "p", .ref l1), (.inr "q", .ref l2)]) ∧ H' l1 = some (.lst []) ∧ H' l2 = some (.lst [])))) ⟨Same.new hp, .inl ⟨rfl, upd_same⟩⟩ (fun i H' _ _ => T.t_PILES H') ?_ ?_⟩
      · rintro i y H' hy ⟨s6, ⟨rfl, hD⟩ | ⟨rfl, l1, h1, h2, hD, h3⟩ | ⟨rfl, _⟩⟩
        · cases Option.some.inj hy
          refine ⟨rfl, tYes_if ?_⟩
          refine ⟨_, rfl, Nat.zero_le _, fun l hl => ⟨_, .inr "p", rfl, (Same.new hl) _ _ hD, small1000 (by simp), ?_, .inr (.inl ⟨rfl, l, ?_, ?_, ?_, ?_⟩)⟩⟩
          · exact fun b u hb => by
              rw [upd_ne (ne_of_none hb hp)]
              exact Same.new hl _ _ (s6 _ _ hb)
          · exact Same.none s6 hl
          · exact fun z => by rw [z, hD] at hl; cases hl
          · rw [upd_same]
            rfl
          · rw [upd_ne (fun z => by rw [z, hD] at hl; cases hl), upd_same]
        · cases Option.some.inj hy
          refine ⟨rfl, tYes_if ?_⟩
          refine ⟨_, rfl, Nat.zero_le _, fun l hl => ⟨_, .inr "q", rfl, (Same.new hl) _ _ hD, small1000 (by simp), ?_, .inr (.inr ⟨rfl, l1, l, h1, ?_, ?_, ?_, ?_, ?_⟩)⟩⟩
          · exact fun b u hb => by
              rw [upd_ne (ne_of_none hb hp)]
              exact Same.new hl _ _ (s6 _ _ hb)
          · exact Same.none s6 hl
          · exact fun z => by rw [← z, h3] at hl; cases hl
          · rw [upd_same]
            have : putK [((.inr "p" : Key), V.ref l1)] (.inr "q") (.ref l) = [(.inr "p", .ref l1), (.inr "q", .ref l)] := by
              unfold putK
              exact if_neg (show ¬ (decide ((Sum.inr ("p" : Str) : Key) = Sum.inr ("q" : Str)) || false) = true by decide)
            rw [this]
          · rw [upd_ne h2]
            exact Same.new hl _ _ h3
          · rw [upd_ne (fun z => by rw [z, hD] at hl; cases hl), upd_same]
        · simp at hy
      · rintro H6 ⟨s6, ⟨h, _⟩ | ⟨h, _⟩ | ⟨_, l1, l2, h1, h2, h3, h4, h5, h6⟩⟩
        · cases h
        · cases h
        · refine ⟨_, _, _, _, rfl, s6 _ _ x5, U.c_Scene.cl, U.n_Scene_piles, Nat.lt_of_le_of_lt (putF_le (putF_le (putF_le (putF_le (Nat.le_refl 0))))) (by decide : 4 < 1000), ?_⟩
          have px : p ≠ x := fun z => by rw [z, x5] at hp; cases hp
          have l1x : l1 ≠ x := fun z => by rw [z, x5] at h1; cases h1
          have l2x : l2 ≠ x := fun z => by rw [z, x5] at h2; cases h2
          refine q _ e n p l1 l2 (s05.trans ((SameB.of s6).trans SameB.upd)) upd_same he (SameB.none s3 x3 hn) (SameB.none s05 x5 hp) (SameB.none s05 x5 h1) (SameB.none s05 x5 h2) h3 (fun z => by rw [z, h1] at e5; cases e5) (fun z => by rw [z, h2] at e5; cases e5) ?_ ?_ ?_ ?_ ?_
          · rw [upd_ne nex]; exact s6 _ _ e5
          · rw [upd_ne nnx]; exact s6 _ _ n5
          · rw [upd_ne px]; exact h4
          · rw [upd_ne l1x]; exact h5
          · rw [upd_ne l2x]; exact h6

end
end An
namespace An
open PySem PySem.Spec PyProof.Rows L2
local macro_rules | `(tactic| walk_at "rd") => `(tactic| simp only [tSeq, tIfS, tRet, tRetN, tAndV, tOrV, tNotV, tCB, tCons, tVar, tC, tNil, rIsD, L2.start, tAnd, tOr, tNot, tB, tTest, tOp, tIf, tChain, tAsg, gName, gNil, gCons, tDrop, tCall, tNext, tFld, sFld, tRaiseR, tMkR, tSl, tPart, tNoPart, tBM, iTup, iList, iEnumT, tYes, tNever, cxOf, wipe, tPar, tPar3, tTup_eq, tLst_eq, rEq_str, rEq_int, rEq_bl, rNe_str, rNe_int, rI0_int, decide_eq_true_eq, Bool.not_eq_true',
  List.map_cons, List.map_nil, List.cons_append, List.nil_append, List.append_nil, List.getElem?_cons_zero, List.getElem?_cons_succ, Option.some.injEq, exists_eq_left', exists_eq_left, List.cons.injEq, and_true, true_and, List.set_cons_zero, List.set_cons_succ, V.bl.injEq, V.int.injEq, V.str.injEq, V.ref.injEq, V.ty.injEq, List.replicate, List.length_cons, List.length_nil, Nat.zero_add, Nat.reduceAdd, Nat.reduceSub, ite_true, ite_false, Bool.false_eq_true, if_false, if_true])
section
variable {P : Program} {w : World} {K : PySem.W.Frag} {mg : Str → Option Value} {base : Heap}

def goF (s p b f : V) : List (Str × V) := putF "is_full" f (putF "bad" b (putF "place" p (putF "scene" s [])))
/-- a Going at the end of () -/
def GoAt (K : PySem.W.Frag) (H : Hp) (g : Addr) : Prop := ∃ dg s pl ds e n p, H g = some (.ins (He.ga K "Going") dg (goF (.ref s) pl .non (.bl false))) ∧ H s = some (.ins (He.ga K "Scene") ds (scF (.ref e) (.int 0) (.int 0) (.ref n) (.ref p)))
def spGoing (K : PySem.W.Frag) : Sp := fun vs H Q _ => ∃ x y, vs = [x, y] ∧ Dp K H x (.tuple []) ∧ Dp K H y (.tuple []) ∧ ∀ H' g, Same H H' → GoAt K H' g → Q (.ref g) H'
theorem H_going (T : Tx P K mg) (U : Tcl K mg) : Has P w K mg base 4 "going" ["program", "choices"] (spGoing K) := by
  refine T.d_going.has sc_going (fun _ _ _ _ _ _ us hl => match us, hl with | [_, _], _ => rfl) (fun vs H Q E h => by obtain ⟨_, _, rfl, _⟩ := h; rfl) (fun f cdv A outer s H vs Q E hr h => ⟨?t, ?b, ?rd⟩)
  case b =>
    refine' (pss_cons (ps_par3 (i := 2) (j := 3) (k := 4) rfl sc_going.nd rfl rfl rfl (by decide) (by decide) (by decide) rfl rfl rfl (pa_cons (pe_makeH0 (I_Scene T U) (hr.mono (by omega)) pasX) (pa_cons (pe_callQ (H_first_place T) (hr.mono (by omega)) pasX (pa_cons (pv 0) pa_nil)) (pa_cons pe_int pa_nil))) rfl)
  (pss_cons (ps_while (passes_of rfl) (pt_cmpR (op_neK (K := K) hr.units) (pv 3) (pe_callQ (H_end_place T) (hr.mono (by omega)) pasX (pa_cons (pv 0) pa_nil)) (nomark _)) pss_never)
  (pss_one (ps_ret (pe_makeH (I_Going T U) (hr.mono (by omega)) pasX (pa_cons (pv 2) (pa_cons (pv 3) (pa_cons (pe_ifExp (pt_cmpR op_lt (pv 4) (pe_callB (call_lnD (K := K)) (by rfl) T.f_len PySem.boot_len (pa_cons (pv 1) pa_nil)) (nomark _)) (pv 4) pe_non) (pa_cons pe_bl pa_nil)))))))))
  case rd =>
  obtain ⟨x, y, rfl, hx, hy, q⟩ := h
  walk_at "rd"
  intro sc dsc hsc hdsc hne
  refine ⟨sc, dsc, rfl, upd_same, fun H1 e n p l1 l2 s1 hx1 _ _ _ _ _ _ _ _ he hn hp h1 h2 => ⟨rfl, ?_⟩⟩
  have s : Same H H1 := fun b u hb => s1 b u (fun z => by rw [z, hsc] at hb; cases hb) (by rw [upd_ne (ne_of_none hb hsc), upd_ne (ne_of_none hb hdsc)]; exact hb)
  refine ⟨x, rfl, fun H2 v s2 hv => ⟨_, _, _, ⟨rfl, rfl, rfl⟩, ?_⟩⟩
  refine ⟨fun _ σ H' => σ = [some x, some y, some (.ref sc), some v, some (.int 0), none, none] ∧ H' = H2, ⟨0, rfl, rfl⟩, fun m σ H' ⟨e1, e2⟩ => ?_⟩
  subst e1 e2
  walk_at "rd"
  refine ⟨x, [], rfl, hx.mv (s.trans s2), fun H3 v3 s3 hv3 => ⟨_, _, hv.mv s3, hv3, by decide +kernel, by decide +kernel, _, rfl, ?_⟩⟩
  rw [if_neg (by decide +kernel)]
  have s13 := s.trans (s2.trans s3)
  unfold tMake
  walk_at "rd"
  refine ⟨_, _, rfl, .inl (hy.mv s13), ?_⟩
  dsimp only
  rw [rI0_int]
  refine ⟨_, rfl, ?_⟩
  rw [if_neg (by decide)]
  intro g dg hg hdg hne2
  refine ⟨g, dg, _, _, _, _, rfl, upd_same, rfl, ?_⟩
  have sg : Same H3 (upd (upd (upd H3 dg (.own g)) g (.ins (He.ga K "Going") dg [])) g (.ins (He.ga K "Going") dg (goF (.ref sc) v .non (.bl false)))) := fun b u hb => by
    rw [upd_upd, upd_ne (ne_of_none hb hg), upd_ne (ne_of_none hb hdg)]
    exact hb
  exact q _ g (s13.trans sg) ⟨dg, sc, v, dsc, e, n, p, upd_same, sg _ _ (s3 _ _ (s2 _ _ hx1))⟩
def spWantLet (K : PySem.W.Frag) : Sp := fun vs H Q _ => ∃ g dg s pl, vs = [.ref g] ∧ H g = some (.ins (He.ga K "Going") dg (goF s pl .non (.bl false))) ∧ Q .non H
theorem H_want_let (T : Tx P K mg) (U : Tcl K mg) : Has P w K mg base 1 "want_let" ["found"] (spWantLet K) := by
  refine T.d_want_let.has sc_want_let (fun _ _ _ _ _ _ us hl => match us, hl with | [_], _ => rfl) (fun vs H Q E h => by obtain ⟨_, _, _, _, rfl, _⟩ := h; rfl) (fun f cdv A outer s H vs Q E hr h => ⟨?t, ?b, ?rd⟩)
  case b =>
    refine' (pss_cons (ps_if (pt_cmpR op_notN (pe_fld (pv 0) rfl) pe_non (nomark _)) (pss_one (ps_raiseR rfl T.ref T.r_BadChoices T.g_BadChoices hr (takes_of rfl rfl rfl rfl) (pa_cons (pe_fld (pv 0) rfl) pa_nil))) pss_nil)
  (pss_one (ps_if (pt_val (pe_fld (pv 0) rfl)) (pss_one (ps_raiseR rfl T.ref T.r_TooMany T.g_TooMany hr (takes_of rfl rfl rfl rfl) (pa_cons (pe_op op_add (pe_gint T.g_MOST_THINGS) pe_int) pa_nil))) pss_nil)))
  case rd =>
  obtain ⟨g, dg, s, pl, rfl, hg, q⟩ := h
  walk_at "rd"
  have l1 : (goF s pl .non (.bl false)).lookup ("bad" : Str) = some .non := by
    unfold goF
    rw [lookup_putF, if_neg (by decide), lookup_putF, if_pos rfl]
  have l2 : (goF s pl .non (.bl false)).lookup ("is_full" : Str) = some (.bl false) := by
    unfold goF
    rw [lookup_putF, if_pos rfl]
  refine ⟨_, _, _, _, _, rfl, hg, U.c_Going.cl, U.n_Going_bad, l1, ?_⟩
  rw [if_neg (by simp)]
  refine ⟨_, _, _, _, _, rfl, hg, U.c_Going.cl, U.n_Going_is_full, l2, _, rfl, ?_⟩
  rw [if_neg (by simp)]
  exact q
def spGone (K : PySem.W.Frag) : Sp := fun vs H Q E => ∃ x y d ds, vs = [x, y] ∧ Dp K H x d ∧ noL d = true ∧ okD d ∧ Dp K H y (.tuple ds) ∧ 
  (match andR (wantPR d) (wantC ds.length) with
  | .er c z => EndD K H Q E (.er c z)
  | .ok _ => d = .tuple [] ∧ ds = [] ∧ ∀ H' g, Same H H' → GoAt K H' g → Q (.ref g) H')
theorem H_gone (T : Tx P K mg) (U : Tcl K mg) : Has P w K mg base 12 "gone" ["program", "choices"] (spGone K) := by
  refine T.d_gone.has sc_gone (fun _ _ _ _ _ _ us hl => match us, hl with | [_, _], _ => rfl) (fun vs H Q E h => by obtain ⟨_, _, _, _, rfl, _⟩ := h; rfl) (fun f cdv A outer s H vs Q E hr h => ⟨?t, ?b, ?rd⟩)
  case b =>
    refine' (pss_cons (ps_expr (pe_callQ (H_want_program T) (hr.mono (by omega)) pasX (pa_cons (pv 0) pa_nil)))
  (pss_cons (ps_expr (pe_callQ (H_want_choices T) (hr.mono (by omega)) pasX (pa_cons (pv 1) pa_nil)))
  (pss_cons (ps_set (i := 2) sc_gone.nd rfl (Or.inl rfl) (pe_callQ (H_going T U) (hr.mono (by omega)) pasX (pa_cons (pv 0) (pa_cons (pv 1) pa_nil))))
  (pss_cons (ps_expr (pe_callQ (H_want_let T U) (hr.mono (by omega)) pasX (pa_cons (pv 2) pa_nil)))
  (pss_one (ps_ret (pv 2)))))))
  case rd =>
  obtain ⟨x, y, d, ds, rfl, hd, nl, ok, hy, q⟩ := h
  walk_at "rd"
  refine ⟨x, d, rfl, hd, nl, ok, ?_⟩
  unfold wantPR at q
  cases e : wantP d with
  | error e => rw [e] at q; exact q
  | ok fd =>
    rw [e] at q
    refine fun H1 p xs s1 _ _ _ _ _ => ⟨y, ds, rfl, .inl (hy.mv s1), ?_⟩
    cases e2 : wantC ds.length with
    | er c w =>
      rw [e2] at q
      exact EndD.mv (z := .er c w) q s1
    | ok r =>
      rw [e2] at q
      obtain ⟨rfl, rfl, q⟩ := q
      intro H2 v2 s2 _
      refine ⟨x, y, rfl, hd.mv (s1.trans s2), hy.mv (s1.trans s2), fun H3 g s3 hg => ?_⟩
      obtain ⟨dg, s, pl, ds, e, n, p, h1, h2⟩ := id hg
      exact ⟨g, dg, _, pl, rfl, h1, q H3 g (s1.trans (s2.trans s3)) hg⟩
def spPlay (K : PySem.W.Frag) : Sp := fun vs H Q E => ∃ x y d ds, vs = [x, y] ∧ Dp K H x d ∧ noL d = true ∧ okD d ∧ Dp K H y (.tuple ds) ∧ isEr (andR (wantPR d) (wantC ds.length)) = true ∧ EndD K H Q E (andR (wantPR d) (wantC ds.length))
theorem H_play (T : Tx P K mg) (U : Tcl K mg) : Has P w K mg base 13 "play" ["program", "choices"] (spPlay K) := by
  refine T.d_play.has sc_play (fun _ _ _ _ _ _ us hl => match us, hl with | [_, _], _ => rfl) (fun vs H Q E h => by obtain ⟨_, _, _, _, rfl, _⟩ := h; rfl) (fun f cdv A outer s H vs Q E hr h => ⟨?t, ?b, ?rd⟩)
  case b =>
    refine' (pss_cons (ps_set (i := 2) sc_play.nd rfl (Or.inl rfl) (pe_callQ (H_gone T U) (hr.mono (by omega)) pasX (pa_cons (pv 0) (pa_cons (pv 1) pa_nil))))
      (pss_cons (ps_never)
      (pss_cons (ps_never)
      (pss_cons (ps_never)
      (pss_one (ps_never))))))
  case rd =>
  obtain ⟨x, y, d, ds, rfl, hd, nl, ok, hy, er, q⟩ := h
  walk_at "rd"
  refine ⟨x, y, d, ds, rfl, hd, nl, ok, hy, ?_⟩
  cases e : andR (wantPR d) (wantC ds.length) with
  | ok r => rw [e] at er; cases er
  | er c w => rw [e] at q; exact q
def pairZ (d : PyData) (n : Nat) : Rz := match andR (wantPR d) (wantC n) with
  | .er c z => .er c z
  | .ok _ => .er "BadThing" (.int 0)
def spPair (K : PySem.W.Frag) : Sp := fun vs H Q E => ∃ x y d ds, vs = [x, y, .int (-1), .int (-1)] ∧ Dp K H x d ∧ noL d = true ∧ okD d ∧ Dp K H y (.tuple ds) ∧ (isEr (andR (wantPR d) (wantC ds.length)) = true ∨ (d = .tuple [] ∧ ds = [])) ∧ EndD K H Q E (pairZ d ds.length)
theorem H_pair_word (T : Tx P K mg) (U : Tcl K mg) : Has P w K mg base 13 "pair_word" ["program", "choices", "i", "j"] (spPair K) := by
  refine T.d_pair_word.has sc_pair_word (fun _ _ _ _ _ _ us hl => match us, hl with | [_, _, _, _], _ => rfl) (fun vs H Q E h => by obtain ⟨_, _, _, _, rfl, _⟩ := h; rfl) (fun f cdv A outer s H vs Q E hr h => ⟨?t, ?b, ?rd⟩)
  case b =>
    refine' (pss_cons (ps_set (i := 4) sc_pair_word.nd rfl (Or.inl rfl) (pe_fld (pe_callQ (H_gone T U) (hr.mono (by omega)) pasX (pa_cons (pv 0) (pa_cons (pv 1) pa_nil))) rfl))
      (pss_cons (ps_if (pt_not (pt_chain op_le op_lt pe_int (pv 2) (pe_fld (pv 4) rfl))) (pss_one (ps_raiseR rfl T.ref T.r_BadThing T.g_BadThing hr (takes_of rfl rfl rfl rfl) (pa_cons pe_int pa_nil))) pss_nil)
      (pss_cons (ps_never)
      (pss_one (ps_never)))))
  case rd =>
  obtain ⟨x, y, d, ds, rfl, hd, nl, ok, hy, er, q⟩ := h
  walk_at "rd"
  refine ⟨x, y, d, ds, rfl, hd, nl, ok, hy, ?_⟩
  unfold pairZ at q
  cases e : andR (wantPR d) (wantC ds.length) with
  | er c w => rw [e] at q; exact q
  | ok r =>
    rw [e] at q er
    rcases er with er | ⟨rfl, rfl⟩
    · cases er
    · refine ⟨rfl, rfl, fun H1 g s1 hg => ?_⟩
      obtain ⟨dg, s, pl, ds, e, n, p, h1, h2⟩ := hg
      have l1 : (goF (.ref s) pl .non (.bl false)).lookup ("scene" : Str) = some (.ref s) := by
        unfold goF
        rw [lookup_putF, if_neg (by decide), lookup_putF, if_neg (by decide), lookup_putF, if_neg (by decide), lookup_putF, if_pos rfl]
      refine ⟨_, _, _, _, _, rfl, h1, U.c_Going.cl, U.n_Going_scene, l1, ?_⟩
      rw [if_neg (by decide)]
      exact erN (Q := Q) (E := E) (c := "BadThing") q s1 (.int 0)

end
end An
namespace An
open PySem PySem.Spec PyProof.Rows L2
local macro_rules | `(tactic| walk_at "rd") => `(tactic| simp only [tSeq, tIfS, tRet, tRetN, tAndV, tOrV, tNotV, tCB, tCons, tVar, tC, tNil, rIsD, L2.start, tAnd, tOr, tNot, tB, tTest, tOp, tIf, tChain, tAsg, gName, gNil, gCons, tDrop, tCall, tNext, tFld, sFld, tRaiseR, tMkR, tSl, tPart, tNoPart, tBM, iTup, iList, iEnumT, tYes, tNever, cxOf, wipe, tPar, tPar3, tTup_eq, tLst_eq, rEq_str, rEq_int, rEq_bl, rNe_str, rNe_int, rI0_int, decide_eq_true_eq, Bool.not_eq_true',
  List.map_cons, List.map_nil, List.cons_append, List.nil_append, List.append_nil, List.getElem?_cons_zero, List.getElem?_cons_succ, Option.some.injEq, exists_eq_left', exists_eq_left, List.cons.injEq, and_true, true_and, List.set_cons_zero, List.set_cons_succ, V.bl.injEq, V.int.injEq, V.str.injEq, V.ref.injEq, V.ty.injEq, List.replicate, List.length_cons, List.length_nil, Nat.zero_add, Nat.reduceAdd, Nat.reduceSub, ite_true, ite_false, Bool.false_eq_true, if_false, if_true])
section
variable {P : Program} {w : World} {K : PySem.W.Frag} {mg : Str → Option Value} {base : Heap}

def spBrk (K : PySem.W.Frag) : Sp := fun vs H Q E => ∃ x t, vs = [x] ∧ Dp K H x t ∧ okD t ∧ (match wantT t with
  | .er c z => EndD K H Q E (.er c z)
  | .ok _ => ∀ H' b, Same H H' → Q (.ref b) H')
theorem wantT_pair {t : PyData} {r : PyData} (h : wantT t = .ok r) : ∃ m b, t = .tuple [.tuple m, .tuple b] := by
  unfold wantT at h
  split at h
  · exact ⟨_, _, rfl⟩
  · cases h
theorem H_breaking_of (T : Tx P K mg) (U : Tcl K mg) : Has P w K mg base 5 "breaking_of" ["table_"] (spBrk K) := by
  refine T.d_breaking_of.has sc_breaking_of (fun _ _ _ _ _ _ us hl => match us, hl with | [_], _ => rfl) (fun vs H Q E h => by obtain ⟨_, _, rfl, _⟩ := h; rfl) (fun f cdv A outer s H vs Q E hr h => ⟨?t, ?b, ?rd⟩)
  case b =>
    refine' (pss_cons (ps_expr (pe_callQ (H_want_table T) (hr.mono (by omega)) pasX (pa_cons (pv 0) pa_nil)))
  (pss_one (ps_ret (pe_makeH (I_Breaking T U) (hr.mono (by omega)) pasX (pa_cons (pe_makeH (I_Told T U) (hr.mono (by omega)) pasX (pa_cons (pe_ix (ix_D (K := K)) (pv 0) pe_int (fun _ _ => rfl)) (pa_cons (pe_ix (ix_D (K := K)) (pv 0) pe_int (fun _ _ => rfl)) pa_nil))) pa_nil)))))
  case rd =>
  obtain ⟨x, t, rfl, hd, ok, q⟩ := h
  walk_at "rd"
  refine ⟨x, t, rfl, hd, ok, ?_⟩
  cases e : wantT t with
  | er c w => rw [e] at q; exact q
  | ok r =>
    rw [e] at q
    obtain ⟨m, b, rfl⟩ := wantT_pair e
    intro H1 v s1 _
    unfold tMake
    walk_at "rd"
    refine ⟨_, 0, _, rfl, hd.mv s1, rfl, fun v1 hv1 => ⟨_, 1, _, rfl, hd.mv s1, rfl, fun v2 hv2 => ?_⟩⟩
    intro p dp hp hdp hne
    refine ⟨p, dp, v1, v2, rfl, upd_same, rfl, fun p2 dp2 hp2 hdp2 hne2 => ?_⟩
    rw [upd_upd] at hp2 hdp2
    refine ⟨p2, dp2, _, rfl, upd_same, rfl, ?_⟩
    simp only [upd_upd]
    refine q _ _ fun c u hc => ?_
    have h1 := s1 _ _ hc
    have g : (upd (upd H1 dp (.own p)) p (.ins (He.ga K "Told") dp (putF "marks" v2 (putF "moves" v1 [])))) c = some u := by
      rw [upd_ne (ne_of_none h1 hp), upd_ne (ne_of_none h1 hdp)]
      exact h1
    rw [upd_ne (ne_of_none g hp2), upd_ne (ne_of_none g hdp2)]
    exact g
def joinZ (a b : PyData) (z : Str) : Rz := match andR (wantT a) (wantT b) with
  | .er c w => .er c w
  | .ok _ => .er "BadWord" (.str z)
def spJoin (K : PySem.W.Frag) : Sp := fun vs H Q E => ∃ x y a b z, vs = [x, y, .str z] ∧ Dp K H x a ∧ okD a ∧ Dp K H y b ∧ okD b ∧ z ≠ "and" ∧ z ≠ "or" ∧ z ≠ "less" ∧ EndD K H Q E (joinZ a b z)
theorem H_joined (T : Tx P K mg) (U : Tcl K mg) : Has P w K mg base 6 "joined" ["one", "two", "word"] (spJoin K) := by
  refine T.d_joined.has sc_joined (fun _ _ _ _ _ _ us hl => match us, hl with | [_, _, _], _ => rfl) (fun vs H Q E h => by obtain ⟨_, _, _, _, _, rfl, _⟩ := h; rfl) (fun f cdv A outer s H vs Q E hr h => ⟨?t, ?b, ?rd⟩)
  case b =>
    refine' (pss_cons (ps_par (i := 3) (j := 4) rfl sc_joined.nd rfl rfl (by decide) rfl rfl (pa_cons (pe_callQ (H_breaking_of T U) (hr.mono (by omega)) pasX (pa_cons (pv 0) pa_nil)) (pa_cons (pe_callQ (H_breaking_of T U) (hr.mono (by omega)) pasX (pa_cons (pv 1) pa_nil)) pa_nil)) rfl)
  (pss_cons (ps_if (pt_cmpR op_eq (pv 2) (pe_gstr T.g_ALL_OF) (nomark _)) (pss_one (ps_never)) pss_nil)
  (pss_cons (ps_if (pt_cmpR op_eq (pv 2) (pe_gstr T.g_ONE_OF) (nomark _)) (pss_one (ps_never)) pss_nil)
  (pss_cons (ps_if (pt_cmpR op_eq (pv 2) (pe_gstr T.g_LESS) (nomark _)) (pss_one (ps_never)) pss_nil)
  (pss_one (ps_raiseR rfl T.ref T.r_BadWord T.g_BadWord hr (takes_of rfl rfl rfl rfl) (pa_cons (pv 2) pa_nil)))))))
  case rd =>
  obtain ⟨x, y, a, b, z, rfl, hx, ok1, hy, ok2, n1, n2, n3, q⟩ := h
  walk_at "rd"
  refine ⟨x, a, rfl, hx, ok1, ?_⟩
  unfold joinZ at q
  cases e : wantT a with
  | er c w => rw [e] at q; exact q
  | ok r =>
    rw [e] at q
    intro H1 b1 s1
    refine ⟨y, b, rfl, hy.mv s1, ok2, ?_⟩
    cases e2 : wantT b with
    | er c w => rw [e2] at q; exact EndD.mv (z := .er c w) q s1
    | ok r =>
      rw [e2] at q
      intro H2 b2 s2
      refine ⟨_, _, ⟨rfl, rfl⟩, ?_⟩
      rw [if_neg n1, if_neg n2, if_neg n3]
      exact erN (Q := Q) (E := E) (c := "BadWord") q (s1.trans s2) (.str z)

end
end An
namespace An
open PySem PySem.Spec PyProof.Rows L2
local macro_rules | `(tactic| walk_at "rd") => `(tactic| simp only [tSeq, tIfS, tRet, tRetN, tAndV, tOrV, tNotV, tCB, tCons, tVar, tC, tNil, rIsD, L2.start, tAnd, tOr, tNot, tB, tTest, tOp, tIf, tChain, tAsg, gName, gNil, gCons, tDrop, tCall, tNext, tFld, sFld, tRaiseR, tMkR, tSl, tPart, tNoPart, tBM, iTup, iList, iEnumT, tYes, tNever, cxOf, wipe, tPar, tPar3, tTup_eq, tLst_eq, rEq_str, rEq_int, rEq_bl, rNe_str, rNe_int, rI0_int, decide_eq_true_eq, Bool.not_eq_true',
  List.map_cons, List.map_nil, List.cons_append, List.nil_append, List.append_nil, List.getElem?_cons_zero, List.getElem?_cons_succ, Option.some.injEq, exists_eq_left', exists_eq_left, List.cons.injEq, and_true, true_and, List.set_cons_zero, List.set_cons_succ, V.bl.injEq, V.int.injEq, V.str.injEq, V.ref.injEq, V.ty.injEq, List.replicate, List.length_cons, List.length_nil, Nat.zero_add, Nat.reduceAdd, Nat.reduceSub, ite_true, ite_false, Bool.false_eq_true, if_false, if_true])
section
variable {P : Program} {w : World} {K : PySem.W.Frag} {mg : Str → Option Value} {base : Heap}

def rIntC : List V → Hp → VK → Prop := fun xs H Q => (∃ i, xs = [.int i] ∧ Q (.int i) H) ∨ ∃ k, xs = [.bl k] ∧ Q (.int (if k then 1 else 0)) H
theorem call_intC {X : Cx} : CallR X (.type "int") rIntC := call_int1
def rMaxC : List V → Hp → VK → Prop := fun xs H Q => ∃ i j, xs = [.int i, .int j] ∧ Q (.int (if j > i then j else i)) H
theorem call_maxC {X : Cx} (hc : X.calm = true) : CallR X (.builtin "max") rMaxC := call_max2 hc
theorem rInt_int {i : Int} {H : Hp} {Q : VK} : rIntC [.int i] H Q = Q (.int i) H := by
  apply propext
  constructor
  · rintro (⟨j, e, q⟩ | ⟨k, e, _⟩)
    · cases e; exact q
    · cases e
  · exact fun q => .inl ⟨i, rfl, q⟩
theorem rInt_bl {k : Bool} {H : Hp} {Q : VK} : rIntC [.bl k] H Q = Q (.int (if k then 1 else 0)) H := by
  apply propext
  constructor
  · rintro (⟨j, e, q⟩ | ⟨k, e, q⟩)
    · cases e
    · cases e; exact q
  · exact fun q => .inr ⟨k, rfl, q⟩
theorem rMax_int {i j : Int} {H : Hp} {Q : VK} : rMaxC [.int i, .int j] H Q = Q (.int (if j > i then j else i)) H := by
  apply propext
  constructor
  · rintro ⟨a, b, e, q⟩
    cases e
    exact q
  · exact fun q => ⟨i, j, rfl, q⟩
theorem rI_int {C : Int → Int → Prop} {g : Int → Int → V} {a b : Int} {H : Hp} {Q : VK} : rI C g (.int a) (.int b) H Q = (C a b ∧ Q (g a b) H) := by
  apply propext
  constructor
  · rintro ⟨i, j, h1, h2, c, q⟩
    cases h1
    cases h2
    exact ⟨c, q⟩
  · rintro ⟨c, q⟩
    exact ⟨a, b, rfl, rfl, c, q⟩
theorem rU_int {g : Int → V} {a : Int} {H : Hp} {Q : VK} : rU g (.int a) H Q = Q (g a) H := by
  apply propext
  constructor
  · rintro ⟨i, h, q⟩
    cases h
    exact q
  · exact fun q => ⟨a, rfl, q⟩
local macro_rules | `(tactic| walk_at "ri") => `(tactic| simp only [rI_int, rI0_int, rU_int, rInt_int, rInt_bl, rMax_int, tUn, tC, rSetL, V.ref.injEq, V.int.injEq, exists_eq_left'])
/-- l[i] by data -/
def rIxLD (K : PySem.W.Frag) : R2 := fun x y H Q => ∃ (ds : List PyData) (i : Nat) (d : PyData), y = .int i ∧ Dp K H x (.list ds) ∧ ds[i]? = some d ∧ ∀ v, Dp K H v d → Q v H
theorem ix_LD {X : Cx} {K : PySem.W.Frag} (hK : X.K = K := by rfl) : IxR X (rIxLD K) := ix_list.imp fun x y H Q h => by
  subst hK
  obtain ⟨ds, i, d, rfl, hx, e, q⟩ := h
  obtain ⟨a, xs, rfl, hs, ha⟩ := dp_lst hx
  obtain ⟨v, ev, hv⟩ := ha.get e
  exact ⟨a, xs, i, v, rfl, rfl, hs, atI_nat ev, q v hv⟩
theorem dp_ints {H : Hp} {a : Addr} {ns : List Int} (h : SqL K H a (ns.map V.int)) : Dp K H (.ref a) (.list (ns.map .int)) := by
  refine .lst h ?_
  clear h
  induction ns with
  | nil => exact .nil
  | cons s ss ih => exact .cons (.int s) ih
def spPool (K : PySem.W.Frag) : Sp := fun vs H Q _ => ∃ a k, ∃ ns : List Int, vs = [.ref a, .int k] ∧ SqL K H a (ns.map V.int) ∧ 0 ≤ k ∧ k ≤ 100 ∧ ns.length ≤ 63 ∧ ∀ H' l b c, Same H H' → H l = none → H' l = some (.lst [.int b, .int c]) → Q (.ref l) H'
theorem H_law_pool (T : Tx P K mg) : Has P w K mg base 1 "_law_pool" ["script", "k"] (spPool K) := by
  refine T.d_law_pool.has sc_law_pool (fun _ _ _ _ _ _ us hl => match us, hl with | [_, _], _ => rfl) (fun vs H Q E h => by obtain ⟨_, _, _, rfl, _⟩ := h; rfl) (fun f cdv A outer s H vs Q E hr h => ⟨?t, ?b, ?rd⟩)
  case b =>
    refine' (pss_cons (ps_set (i := 2) sc_law_pool.nd rfl (Or.inl rfl) pe_int)
  (pss_cons (ps_if (pt_cmpR op_lt (pv 1) (pe_callB (call_lnD (K := K)) (by rfl) T.f_len PySem.boot_len (pa_cons (pv 0) pa_nil)) (nomark _)) (pss_one (ps_set (i := 2) sc_law_pool.nd rfl (Or.inl rfl) (pe_ix ix_list (pv 0) (pv 1) (fun _ _ => rfl)))) (pss_one (ps_if (pt_truth (pv 0) (by intro _; rfl)) (pss_one (ps_set (i := 2) sc_law_pool.nd rfl (Or.inl rfl) (pe_ix ix_list (pv 0) pe_int (fun _ _ => rfl)))) pss_nil)))
  (pss_cons (ps_set (i := 3) sc_law_pool.nd rfl (Or.inl rfl) (pe_callB (call_maxC rfl) (by rfl) T.f_max (by first | rfl | decide +kernel) (pa_cons (pe_callTy call_intC (by rfl) T.f_int (by first | rfl | decide +kernel) (pa_cons (pv 2) pa_nil)) (pa_cons (pe_callTy call_intC (by rfl) T.f_int (by first | rfl | decide +kernel) (pa_cons (pe_op op_sub (pe_un un_neg pe_int) (pv 2)) pa_nil)) pa_nil))))
  (pss_cons (ps_set (i := 4) sc_law_pool.nd rfl (Or.inl rfl) (pe_op op_mod (pe_callTy call_intC (by rfl) T.f_int (by first | rfl | decide +kernel) (pa_cons (pe_op op_mul (pe_op op_add (pe_op op_add (pe_op op_add (pe_op op_mod (pe_callTy call_intC (by rfl) T.f_int (by first | rfl | decide +kernel) (pa_cons (pv 3) pa_nil)) pe_int) (pe_op op_mul (pe_op op_mul pe_int (pv 1)) (pv 1))) (pe_op op_mul pe_int (pv 1))) pe_int) pe_int) pa_nil)) pe_int))
  (pss_one (ps_ret (pe_lst (pa_cons (pe_op op_mul (pv 3) (pe_callTy call_intC (by rfl) T.f_int (by first | rfl | decide +kernel) (pa_cons (pe_cmpR op_ge (pv 3) (pe_op op_pow pe_int pe_int) (nomark _)) pa_nil))) (pa_cons (pv 4) pa_nil)))))))))
  case rd =>
  obtain ⟨a, k, ns, rfl, hS, hk, hk2, hn, q⟩ := h
  walk_at "rd"
  have hd : Dp K H (.ref a) (.list (ns.map .int)) := dp_ints hS
  have fin : ∀ (c d e : Int) , mkL [.int c, .int d] H Q := fun c d _ => ⟨Nat.le_of_lt (small1000 (by simp)), fun l hl => q _ l _ _ (Same.new hl) hl upd_same⟩
  have m1 : CMul 7919 k := .inl ⟨by decide, by decide⟩
  have m2 : CMul (7919 * k) k := .inr ⟨by omega, by omega⟩
  have m3 : CMul 31 k := .inl ⟨by decide, by decide⟩
  have m4 : ∀ z : Int, CMul z 48271 := fun z => .inr ⟨by decide, by decide⟩
  have m5 : CPow 10 18 := by unfold CPow; decide
  have m6 : ∀ (z : Int) (b : Bool), CMul z (if b = true then 1 else 0) := fun z b => by
    cases b
    · exact .inr ⟨by decide, by decide⟩
    · exact .inr ⟨by decide, by decide⟩
  refine ⟨_, _, rfl, .inr hd, ?_⟩
  dsimp only
  rw [rI0_int]
  refine ⟨_, rfl, ?_⟩
  rw [List.length_map]
  by_cases c : k < ns.length
  · rw [if_pos (by simpa using c)]
    obtain ⟨j, rfl⟩ : ∃ j : Nat, k = (j : Int) := ⟨k.toNat, by omega⟩
    refine ⟨_, _, _, _, rfl, rfl, hS, atI_cell (by omega), ?_⟩
    walk_at "ri"
    exact ⟨by decide, m1, m2, m3, m4 _, by decide, m5, m6 _ _, fin _ _ 0⟩
  · rw [if_neg (by simpa using c)]
    refine ⟨_, .inl ⟨_, hS, rfl⟩, ?_⟩
    by_cases c2 : ns = []
    · rw [if_neg (by simp [c2])]
      walk_at "ri"
      exact ⟨by decide, m1, m2, m3, m4 _, by decide, m5, m6 _ _, fin _ _ 0⟩
    · rw [if_pos (by simpa using c2)]
      have hpos : 0 < ns.length := List.length_pos_iff.mpr c2
      refine ⟨_, _, _, _, rfl, rfl, hS, atI_cell (j := 0) (by omega), ?_⟩
      walk_at "ri"
      exact ⟨by decide, m1, m2, m3, m4 _, by decide, m5, m6 _ _, fin _ _ 0⟩
def spTake (K : PySem.W.Frag) : Sp := fun vs H Q _ => ∃ l n a b, vs = [.ref l, .int n] ∧ H l = some (.lst [.int a, .int b]) ∧ 0 < n ∧ n ≤ 1000 ∧ ∀ H' r a' b', SameB l H H' → H' l = some (.lst [.int a', .int b']) → 0 ≤ r → r < n → Q (.int r) H'
theorem H_law_take (T : Tx P K mg) : Has P w K mg base 1 "_law_take" ["source", "top"] (spTake K) := by
  refine T.d_law_take.has sc_law_take (fun _ _ _ _ _ _ us hl => match us, hl with | [_, _], _ => rfl) (fun vs H Q E h => by obtain ⟨_, _, _, _, rfl, _⟩ := h; rfl) (fun f cdv A outer s H vs Q E hr h => ⟨?t, ?b, ?rd⟩)
  case b =>
    refine' (pss_cons (ps_if (pt_cmpR op_gt (pe_ix ix_list (pv 0) pe_int (fun _ _ => rfl)) pe_int (nomark _)) (pss_cons (ps_set (i := 2) sc_law_take.nd rfl (Or.inl rfl) (pe_op op_mod (pe_callTy call_intC (by rfl) T.f_int (by first | rfl | decide +kernel) (pa_cons (pe_ix ix_list (pv 0) pe_int (fun _ _ => rfl)) pa_nil)) (pv 1)))
  (pss_cons (ps_asg (pe_op op_fdiv (pe_ix ix_list (pv 0) pe_int (fun _ _ => rfl)) (pv 1)) (pg_sub (pv 0) pe_int set_list))
  (pss_one (ps_ret (pv 2))))) pss_nil)
  (pss_cons (ps_asg (pe_op op_mod (pe_callTy call_intC (by rfl) T.f_int (by first | rfl | decide +kernel) (pa_cons (pe_op op_add (pe_op op_mul (pe_ix ix_list (pv 0) pe_int (fun _ _ => rfl)) pe_int) pe_int) pa_nil)) pe_int) (pg_sub (pv 0) pe_int set_list))
  (pss_one (ps_ret (pe_op op_mod (pe_callTy call_intC (by rfl) T.f_int (by first | rfl | decide +kernel) (pa_cons (pe_op op_fdiv (pe_op op_mod (pe_callTy call_intC (by rfl) T.f_int (by first | rfl | decide +kernel) (pa_cons (pe_op op_mul (pe_ix ix_list (pv 0) pe_int (fun _ _ => rfl)) (pe_ix ix_list (pv 0) pe_int (fun _ _ => rfl))) pa_nil)) pe_int) pe_int) pa_nil)) (pv 1))))))
  case rd =>
  obtain ⟨l, n, a, b, rfl, hl, h0, h1, q⟩ := h
  walk_at "rd"
  have x0 : ∀ {H' : Hp} {a b : Int}, H' l = some (.lst [.int a, .int b]) → ∀ {C : VK}, C (.int a) H' → rIxL K (.ref l) (.int 0) H' C := fun h _ c => ⟨_, _, _, _, rfl, rfl, .inl (.inl h), rfl, c⟩
  have x1 : ∀ {H' : Hp} {a b : Int}, H' l = some (.lst [.int a, .int b]) → ∀ {C : VK}, C (.int b) H' → rIxL K (.ref l) (.int 1) H' C := fun h _ c => ⟨_, _, _, _, rfl, rfl, .inl (.inl h), rfl, c⟩
  refine x0 hl ?_
  rw [rI0_int]
  refine ⟨_, rfl, ?_⟩
  by_cases c : 0 < a
  · rw [if_pos (by simpa using c)]
    refine x0 hl ?_
    rw [rInt_int, rI_int]
    refine ⟨h0, x0 hl ?_⟩
    rw [rI_int]
    refine ⟨⟨h0, by omega⟩, _, rfl, _, _, _, _, rfl, rfl, hl, rfl, _, rfl, ?_⟩
    exact q _ _ _ _ SameB.upd upd_same (Int.emod_nonneg _ (by omega)) (Int.emod_lt_of_pos _ h0)
  · rw [if_neg (by simpa using c)]
    refine x1 hl ?_
    walk_at "ri"
    refine ⟨.inr ⟨by decide, by decide⟩, by decide, _, rfl, _, _, _, _, rfl, rfl, hl, rfl, ?_⟩
    have hb := Int.emod_nonneg (b * 39373 + 7) (b := 2147483647) (by decide)
    have hb2 := Int.emod_lt_of_pos (b * 39373 + 7) (b := 2147483647) (by decide)
    have g : (upd H l (.lst ([V.int a, V.int b].set (Int.toNat 1) (.int ((b * 39373 + 7) % 2147483647))))) l = some (.lst [.int a, .int ((b * 39373 + 7) % 2147483647)]) := upd_same
    generalize (b * 39373 + 7) % 2147483647 = b2 at *
    have sb : SameB l H (upd H l (.lst ([V.int a, V.int b].set (Int.toNat 1) (.int b2)))) := SameB.upd
    generalize upd H l (.lst ([V.int a, V.int b].set (Int.toNat 1) (.int b2))) = H2 at *
    walk_at "rd"
    refine x1 g ?_
    refine x1 g ?_
    walk_at "ri"
    refine ⟨.inl ⟨by omega, by omega⟩, by decide, ⟨by decide, by decide⟩, h0, ?_⟩
    exact q _ _ _ _ sb g (Int.emod_nonneg _ (by omega)) (Int.emod_lt_of_pos _ h0)
def spOne (K : PySem.W.Frag) : Sp := fun vs H Q _ => ∃ l t ds a b, vs = [.ref l, .ref t] ∧ H l = some (.lst [.int a, .int b]) ∧ t ≠ l ∧ Dp K H (.ref t) (.list ds) ∧ noLs ds = true ∧ 0 < ds.length ∧ ds.length ≤ 1000 ∧
  ∀ H' v d a' b', SameB l H H' → H' l = some (.lst [.int a', .int b']) → d ∈ ds → Dp K H' v d → Q v H'
theorem H_law_one (T : Tx P K mg) : Has P w K mg base 2 "_law_one" ["source", "things"] (spOne K) := by
  refine T.d_law_one.has sc_law_one (fun _ _ _ _ _ _ us hl => match us, hl with | [_, _], _ => rfl) (fun vs H Q E h => by obtain ⟨_, _, _, _, _, rfl, _⟩ := h; rfl) (fun f cdv A outer s H vs Q E hr h => ⟨?t, ?b, ?rd⟩)
  case b =>
    refine' (pss_one (ps_ret (pe_ix (ix_LD (K := K)) (pv 1) (pe_callQ (H_law_take T) (hr.mono (by omega)) pasX (pa_cons (pv 0) (pa_cons (pe_callB (call_lnD (K := K)) (by rfl) T.f_len PySem.boot_len (pa_cons (pv 1) pa_nil)) pa_nil))) (fun _ _ => rfl))))
  case rd =>
  obtain ⟨l, t, ds, a, b, rfl, hl, ht, hd, nl, h0, h1, q⟩ := h
  walk_at "rd"
  refine ⟨_, ds, rfl, .inr hd, ?_⟩
  refine ⟨l, ds.length, a, b, rfl, hl, by omega, by omega, fun H' r a' b' s1 hl1 r0 r1 => ?_⟩
  obtain ⟨j, rfl⟩ : ∃ j : Nat, r = (j : Int) := ⟨r.toNat, by omega⟩
  have hj : ds[j]? = some (ds[j]'(by omega)) := List.getElem?_eq_getElem _
  have hd1 : Dp K H' (.ref t) (.list ds) := by
    obtain ⟨t', xs, e, hs, ha⟩ := dp_lst hd
    cases e
    exact .lst (SqL.sb s1 ht hs) (DpAll.sb s1 hl _ _ nl ha)
  exact ⟨ds, j, _, rfl, hd1, hj, fun v hv => q _ _ _ _ _ s1 hl1 (List.getElem_mem _) hv⟩

end
end An
namespace An
open PySem PySem.Spec PyProof.Rows L2
local macro_rules | `(tactic| walk_at "rd") => `(tactic| simp only [tSeq, tIfS, tRet, tRetN, tAndV, tOrV, tNotV, tCB, tCons, tVar, tC, tNil, rIsD, L2.start, tAnd, tOr, tNot, tB, tTest, tOp, tIf, tChain, tAsg, gName, gNil, gCons, tDrop, tCall, tNext, tFld, sFld, tRaiseR, tMkR, tSl, tPart, tNoPart, tBM, iTup, iList, iEnumT, tYes, tNever, cxOf, wipe, tPar, tPar3, tTup_eq, tLst_eq, rEq_str, rEq_int, rEq_bl, rNe_str, rNe_int, rI0_int, decide_eq_true_eq, Bool.not_eq_true',
  List.map_cons, List.map_nil, List.cons_append, List.nil_append, List.append_nil, List.getElem?_cons_zero, List.getElem?_cons_succ, Option.some.injEq, exists_eq_left', exists_eq_left, List.cons.injEq, and_true, true_and, List.set_cons_zero, List.set_cons_succ, V.bl.injEq, V.int.injEq, V.str.injEq, V.ref.injEq, V.ty.injEq, List.replicate, List.length_cons, List.length_nil, Nat.zero_add, Nat.reduceAdd, Nat.reduceSub, ite_true, ite_false, Bool.false_eq_true, if_false, if_true])
section
variable {P : Program} {w : World} {K : PySem.W.Frag} {mg : Str → Option Value} {base : Heap}

/-! expressions by data -/
def EvS (K : PySem.W.Frag) (te : TE) (σ : L2.St) (H : Hp) (d : PyData) : Prop := ∀ H', Same H H' → ∀ Q, QD K H' d Q → te σ H' Q
def EvsS (K : PySem.W.Frag) (ta : TA) (σ : L2.St) (H : Hp) (ds : List PyData) : Prop := ∀ H', Same H H' → ∀ Q : List V → Hp → Prop, (∀ H2 vs, Same H' H2 → DpAll K H2 vs ds → Q vs H2) → ta σ H' Q
section
variable {σ : L2.St} {H : Hp} {te : TE} {ta tr : TA} {d : PyData} {ds : List PyData}
theorem ev_int {i : Int} : EvS K (tC (.int i)) σ H (.int i) := fun H' _ _ q => q.now (.int i)
theorem ev_str {i : Str} : EvS K (tC (.str i)) σ H (.str i) := fun H' _ _ q => q.now (.str i)
theorem ev_bl {i : Bool} : EvS K (tC (.bl i)) σ H (.bool i) := fun H' _ _ q => q.now (.bl i)
theorem ev_non : EvS K (tC .non) σ H .none := fun H' _ _ q => q.now .non
theorem ev_var {i : Nat} {v : V} (e : σ[i]? = some (some v)) (h : Dp K H v d) : EvS K (tVar i) σ H d := fun H' s _ q => ⟨v, e, q.now (h.mv s)⟩
theorem evs_nil : EvsS K tNil σ H [] := fun H' s Q q => q H' [] (Same.refl _) .nil
theorem evs_cons (h1 : EvS K te σ H d) (h2 : EvsS K tr σ H ds) : EvsS K (tCons te tr) σ H (d :: ds) := fun H' s Q q => h1 H' s _ fun H2 v s2 hv => h2 H2 (s.trans s2) _ fun H3 vs s3 hvs => q H3 _ (s2.trans s3) (.cons (hv.mv s3) hvs)
theorem ev_tup (h : EvsS K ta σ H ds) (hz : ds.length ≤ 1000) : EvS K (tTup ta) σ H (.tuple ds) := fun H' s Q q => h H' s _ fun H2 vs s2 hvs => mkT_D hvs hz fun H3 v s3 hv => q H3 v (s2.trans s3) hv
theorem ev_rep {k : Int} (h : EvS K te σ H (.tuple ds)) (h0 : ds ≠ []) (h1 : 2 ≤ k) (h2 : k ≤ 4000) (h3 : ds.length ≤ 100) : EvS K (tOp (rRepD K) te (tC (.int k))) σ H (.tuple (List.replicate k.toNat ds).flatten) := fun H' s Q q =>
  h H' s _ fun H2 v s2 hv => ⟨ds, k, rfl, hv, h0, h1, h2, h3, fun H3 v s3 hv => q H3 v (s2.trans s3) hv⟩
end
local macro_rules | `(tactic| walk_at "ev") => `(tactic| repeat' first
  | exact evs_nil
  | refine evs_cons ?_ ?_
  | exact ev_int
  | exact ev_str
  | exact ev_bl
  | exact ev_non
  | exact ev_var rfl (by assumption)
  | refine ev_tup ?_ (by first | decide | simp)
  | refine ev_rep ?_ (by simp) (by decide) (by decide) (by decide))
theorem one_call {σ : L2.St} {H : Hp} {l : Addr} {a b : Int} {tl : TA} {ds : List PyData} {E : XK} {Q : VK} (h0 : σ[0]? = some (some (.ref l))) (hl : H l = some (.lst [.int a, .int b])) (ev : EvsS K tl σ H ds) (nl : noLs ds = true) (p : 0 < ds.length) (z : ds.length ≤ 1000)
    (q : ∀ H' v d a' b', SameB l H H' → H' l = some (.lst [.int a', .int b']) → d ∈ ds → Dp K H' v d → Q v H') : tCall (spOne K) [] E (tCons (tVar 0) (tCons (tLst tl) tNil)) σ H Q := by
  refine ⟨_, h0, ev H (Same.refl H) _ fun H2 vs s2 hvs => ⟨by rw [hvs.length]; exact Nat.le_of_lt (small1000 z), fun t ht => ?_⟩⟩
  have hd : Dp K (upd H2 t (.lst vs)) (.ref t) (.list ds) := .lst (.inl (.inl upd_same)) (hvs.mv (Same.new ht))
  have s3 : Same H2 (upd H2 t (.lst vs)) := Same.new ht
  have hl2 := s2 _ _ hl
  exact ⟨l, t, ds, a, b, rfl, s3 _ _ hl2, fun z => by (rw [z, hl2] at ht; cases ht), hd, nl, p, z, fun H' v d a' b' s4 h1 h2 h3 => q H' v d a' b' ((SameB.of (s2.trans s3)).trans s4) h1 h2 h3⟩
theorem seq_ev {σ : L2.St} {H : Hp} {te : TE} {tb : TS} {D : Ends} {i : Nat} {d : PyData} (h : EvS K te σ H d) (q : ∀ H' v, Same H H' → Dp K H' v d → tb D (σ.set i (some v)) H') : tSeq (tAsg te (gName i)) tb D σ H := h H (Same.refl _) _ q
theorem ret_ev {σ : L2.St} {H : Hp} {te : TE} {D : Ends} {d : PyData} (h : EvS K te σ H d) (q : QD K H d D.rt) : tRet te D σ H := h H (Same.refl _) _ q
theorem seq_one {σ : L2.St} {H : Hp} {l : Addr} {a b : Int} {tl : TA} {ds : List PyData} {E : XK} {tb : TS} {D : Ends} {i : Nat} (h0 : σ[0]? = some (some (.ref l))) (hl : H l = some (.lst [.int a, .int b])) (ev : EvsS K tl σ H ds) (nl : noLs ds = true) (p : 0 < ds.length) (z : ds.length ≤ 1000)
    (q : ∀ H' v d a' b', SameB l H H' → H' l = some (.lst [.int a', .int b']) → d ∈ ds → Dp K H' v d → tb D (σ.set i (some v)) H') : tSeq (tAsg (tCall (spOne K) [] E (tCons (tVar 0) (tCons (tLst tl) tNil))) (gName i)) tb D σ H := one_call h0 hl ev nl p z q
def err (c : Str) (w : PyData) : PyData := .tuple [.str c, w]
def newA : PyData := .tuple [.str "new", .str "a"]
/-- n loops, one in another -/
def deepD : Nat → PyData
  | 0 => .tuple [.str "loop", .tuple []]
  | n + 1 => .tuple [.str "loop", .tuple [deepD n]]
def progs : List PyData := [.tuple [.int 5, err "BadProgram" (.tuple [])], .tuple [.tuple [newA, .tuple [.str "new", .str "e"]], err "BadProgram" (.tuple [.int 1])], .tuple [.tuple (List.replicate 41 [newA]).flatten, err "TooMany" (.int 41)], .tuple [.tuple [deepD 6], err "TooMany" (.int 7)]]
def zeros (n : Nat) : PyData := .tuple (List.replicate n [.int 0]).flatten
def tabs : List PyData := [.tuple [.tuple [.tuple [], .tuple []], err "BadTable" (.int 0)], .tuple [.tuple [.tuple [zeros 17, zeros 16], .tuple [.bool true, .bool false]], err "BadTable" (.int 1)], .tuple [.tuple [.tuple [zeros 17], .tuple [.int 1]], err "BadTable" (.int 0)],
  .tuple [.tuple [.tuple (List.replicate 201 [zeros 17]).flatten, .tuple (List.replicate 201 [PyData.bool false]).flatten], err "TooMany" (.int 201)]]
def codes : List PyData := [.tuple [.tuple [], err "BadCode" (.int 0)], .tuple [.tuple [newA], err "BadCode" (.int 1)], .tuple [.tuple [.tuple [.str "jump", .int 9], .tuple [.str "stop"]], err "BadCode" (.int 0)], .tuple [.tuple [.tuple [.str "stop"], .tuple [.str "stop"]], err "BadCode" (.int 0)]]
def chs : PyData := .tuple [zeros 3001, err "TooMany" (.int 3001)]
theorem nl_progs : noLs progs = true := by decide +kernel
theorem nl_tabs : noLs tabs = true := by decide +kernel
theorem nl_codes : noLs codes = true := by decide +kernel
def spWrong (K : PySem.W.Frag) : Sp := fun vs H Q _ => ∃ l a b, vs = [.ref l] ∧ H l = some (.lst [.int a, .int b]) ∧ ∀ H' v pr tb cd, SameB l H H' → pr ∈ progs → tb ∈ tabs → cd ∈ codes → Dp K H' v (.tuple [pr, tb, cd, chs]) → Q v H'
theorem H_law_wrong (T : Tx P K mg) : Has P w K mg base 3 "_law_wrong" ["source"] (spWrong K) := by
  refine T.d_law_wrong.has sc_law_wrong (fun _ _ _ _ _ _ us hl => match us, hl with | [_], _ => rfl) (fun vs H Q E h => by obtain ⟨_, _, _, rfl, _⟩ := h; rfl) (fun f cdv A outer s H vs Q E hr h => ⟨?t, ?b, ?rd⟩)
  case b =>
    refine' (pss_cons (ps_set (i := 1) sc_law_wrong.nd rfl (Or.inl rfl) (pe_tup (pa_cons pe_str (pa_cons (pe_tup pa_nil) pa_nil))))
  (pss_cons (ps_for (passes_of rfl) rfl (pi_range1 (by rfl) T.f_range (pa_cons pe_int pa_nil)) (pg_name (i := 2) sc_law_wrong.nd rfl (Or.inl rfl)) (pss_one (ps_set (i := 1) sc_law_wrong.nd rfl (Or.inl rfl) (pe_tup (pa_cons pe_str (pa_cons (pe_tup (pa_cons (pv 1) pa_nil)) pa_nil))))))
  (pss_cons (ps_set (i := 3) sc_law_wrong.nd rfl (Or.inl rfl) (pe_callQ (H_law_one T) (hr.mono (by omega)) pasX (pa_cons (pv 0) (pa_cons (pe_lst (pa_cons (pe_tup (pa_cons pe_int (pa_cons (pe_tup (pa_cons pe_str (pa_cons (pe_tup pa_nil) pa_nil))) pa_nil))) (pa_cons (pe_tup (pa_cons (pe_tup (pa_cons (pe_tup (pa_cons pe_str (pa_cons pe_str pa_nil))) (pa_cons (pe_tup (pa_cons pe_str (pa_cons pe_str pa_nil))) pa_nil))) (pa_cons (pe_tup (pa_cons pe_str (pa_cons (pe_tup (pa_cons pe_int pa_nil)) pa_nil))) pa_nil))) (pa_cons (pe_tup (pa_cons (pe_op (op_repD (K := K)) (pe_tup (pa_cons (pe_tup (pa_cons pe_str (pa_cons pe_str pa_nil))) pa_nil)) pe_int) (pa_cons (pe_tup (pa_cons pe_str (pa_cons pe_int pa_nil))) pa_nil))) (pa_cons (pe_tup (pa_cons (pe_tup (pa_cons (pv 1) pa_nil)) (pa_cons (pe_tup (pa_cons pe_str (pa_cons pe_int pa_nil))) pa_nil))) pa_nil))))) pa_nil))))
  (pss_cons (ps_set (i := 4) sc_law_wrong.nd rfl (Or.inl rfl) (pe_op (op_repD (K := K)) (pe_tup (pa_cons pe_int pa_nil)) pe_int))
  (pss_cons (ps_set (i := 5) sc_law_wrong.nd rfl (Or.inl rfl) (pe_callQ (H_law_one T) (hr.mono (by omega)) pasX (pa_cons (pv 0) (pa_cons (pe_lst (pa_cons (pe_tup (pa_cons (pe_tup (pa_cons (pe_tup pa_nil) (pa_cons (pe_tup pa_nil) pa_nil))) (pa_cons (pe_tup (pa_cons pe_str (pa_cons pe_int pa_nil))) pa_nil))) (pa_cons (pe_tup (pa_cons (pe_tup (pa_cons (pe_tup (pa_cons (pv 4) (pa_cons (pe_op (op_repD (K := K)) (pe_tup (pa_cons pe_int pa_nil)) pe_int) pa_nil))) (pa_cons (pe_tup (pa_cons pe_bl (pa_cons pe_bl pa_nil))) pa_nil))) (pa_cons (pe_tup (pa_cons pe_str (pa_cons pe_int pa_nil))) pa_nil))) (pa_cons (pe_tup (pa_cons (pe_tup (pa_cons (pe_tup (pa_cons (pv 4) pa_nil)) (pa_cons (pe_tup (pa_cons pe_int pa_nil)) pa_nil))) (pa_cons (pe_tup (pa_cons pe_str (pa_cons pe_int pa_nil))) pa_nil))) (pa_cons (pe_tup (pa_cons (pe_tup (pa_cons (pe_op (op_repD (K := K)) (pe_tup (pa_cons (pv 4) pa_nil)) pe_int) (pa_cons (pe_op (op_repD (K := K)) (pe_tup (pa_cons pe_bl pa_nil)) pe_int) pa_nil))) (pa_cons (pe_tup (pa_cons pe_str (pa_cons pe_int pa_nil))) pa_nil))) pa_nil))))) pa_nil))))
  (pss_cons (ps_set (i := 6) sc_law_wrong.nd rfl (Or.inl rfl) (pe_callQ (H_law_one T) (hr.mono (by omega)) pasX (pa_cons (pv 0) (pa_cons (pe_lst (pa_cons (pe_tup (pa_cons (pe_tup pa_nil) (pa_cons (pe_tup (pa_cons pe_str (pa_cons pe_int pa_nil))) pa_nil))) (pa_cons (pe_tup (pa_cons (pe_tup (pa_cons (pe_tup (pa_cons pe_str (pa_cons pe_str pa_nil))) pa_nil)) (pa_cons (pe_tup (pa_cons pe_str (pa_cons pe_int pa_nil))) pa_nil))) (pa_cons (pe_tup (pa_cons (pe_tup (pa_cons (pe_tup (pa_cons pe_str (pa_cons pe_int pa_nil))) (pa_cons (pe_tup (pa_cons pe_str pa_nil)) pa_nil))) (pa_cons (pe_tup (pa_cons pe_str (pa_cons pe_int pa_nil))) pa_nil))) (pa_cons (pe_tup (pa_cons (pe_tup (pa_cons (pe_tup (pa_cons pe_str pa_nil)) (pa_cons (pe_tup (pa_cons pe_str pa_nil)) pa_nil))) (pa_cons (pe_tup (pa_cons pe_str (pa_cons pe_int pa_nil))) pa_nil))) pa_nil))))) pa_nil))))
  (pss_one (ps_ret (pe_tup (pa_cons (pv 3) (pa_cons (pv 5) (pa_cons (pv 6) (pa_cons (pe_tup (pa_cons (pe_op (op_repD (K := K)) (pe_tup (pa_cons pe_int pa_nil)) pe_int) (pa_cons (pe_tup (pa_cons pe_str (pa_cons pe_int pa_nil))) pa_nil))) pa_nil)))))))))))))
  case rd =>
  obtain ⟨l, a, b, rfl, hl, q⟩ := h
  walk_at "rd"
  refine mkT_D (K := K) .nil (by decide) fun H1 t1 s1 h1 => ?_
  refine mkT_D (K := K) (.cons (.str "loop") (.cons h1 .nil)) (by decide) fun H2 t2 s2 h2 => ?_
  have hl2 := s2 _ _ (s1 _ _ hl)
  refine ⟨6, rfl, by decide, by decide, for_it walk_range (fun i σ H' => ∃ v s2, σ = [some (.ref l), some v, s2, none, none, none, none] ∧ Same H2 H' ∧ Dp K H' v (deepD i)) ⟨t2, none, rfl, Same.refl _, h2⟩ (fun _ _ _ _ _ => True.intro) ?_ ?_⟩
  · rintro i x σ H3 H4 hi ⟨v, s, rfl, s3, hv⟩ ⟨rfl, rfl⟩
    walk_at "rd"
    refine mkT_D (K := K) (.cons hv .nil) (by simp) fun H5 t5 s5 h5 => ?_
    refine mkT_D (K := K) (.cons (.str "loop") (.cons h5 .nil)) (by simp) fun H6 t6 s6 h6 => ?_
    exact ⟨t6, _, ⟨rfl, rfl⟩, s3.trans (s5.trans s6), h6⟩
  · rintro σ H3 ⟨v, s, rfl, s3, hv⟩
    have hl3 := s3 _ _ hl2
    dsimp only
    refine seq_one (K := K) (i := 3) (ds := progs) rfl hl3 (by walk_at "ev") nl_progs (by decide) (by decide) fun H4 v3 pr a4 b4 s4 hl4 hpr hv3 => ?_
    refine seq_ev (K := K) (i := 4) (d := zeros 17) (by walk_at "ev") fun H5 v5 s5 h5 => ?_
    have hl5 := s5 _ _ hl4
    refine seq_one (K := K) (i := 5) (ds := tabs) rfl hl5 (by walk_at "ev") nl_tabs (by decide) (by decide) fun H6 v6 tb a6 b6 s6 hl6 htb h6 => ?_
    refine seq_one (K := K) (i := 6) (ds := codes) rfl hl6 (by walk_at "ev") nl_codes (by decide) (by decide) fun H7 v7 cd a7 b7 s7 hl7 hcd h7 => ?_
    have n3 := noLs_all.mp nl_progs pr hpr
    have n6 := noLs_all.mp nl_tabs tb htb
    have h3' := Dp.sb (K := K) s7 hl6 _ _ n3 (Dp.sb s6 hl5 _ _ n3 (hv3.mv s5))
    have h6' := Dp.sb (K := K) s7 hl6 _ _ n6 h6
    refine ret_ev (K := K) (d := .tuple [pr, tb, cd, chs]) (by walk_at "ev") fun H8 v8 s8 h8 => q H8 v8 pr tb cd ((SameB.of (s1.trans (s2.trans s3))).trans (s4.trans ((SameB.of s5).trans (s6.trans (s7.trans (.of s8)))))) hpr htb hcd h8

end
end An
namespace An
open PySem PySem.Spec PyProof.Rows L2
local macro_rules | `(tactic| walk_at "rd") => `(tactic| simp only [tSeq, tIfS, tRet, tRetN, tAndV, tOrV, tNotV, tCB, tCons, tVar, tC, tNil, rIsD, L2.start, tAnd, tOr, tNot, tB, tTest, tOp, tIf, tChain, tAsg, gName, gNil, gCons, tDrop, tCall, tNext, tFld, sFld, tRaiseR, tMkR, tSl, tPart, tNoPart, tBM, iTup, iList, iEnumT, tYes, tNever, cxOf, wipe, tPar, tPar3, tTup_eq, tLst_eq, rEq_str, rEq_int, rEq_bl, rNe_str, rNe_int, rI0_int, decide_eq_true_eq, Bool.not_eq_true',
  List.map_cons, List.map_nil, List.cons_append, List.nil_append, List.append_nil, List.getElem?_cons_zero, List.getElem?_cons_succ, Option.some.injEq, exists_eq_left', exists_eq_left, List.cons.injEq, and_true, true_and, List.set_cons_zero, List.set_cons_succ, V.bl.injEq, V.int.injEq, V.str.injEq, V.ref.injEq, V.ty.injEq, List.replicate, List.length_cons, List.length_nil, Nat.zero_add, Nat.reduceAdd, Nat.reduceSub, ite_true, ite_false, Bool.false_eq_true, if_false, if_true])
section
variable {P : Program} {w : World} {K : PySem.W.Frag} {mg : Str → Option Value} {base : Heap}

def askedZ (w : Nat) (p t : PyData) (c : List PyData) : Rz :=
  if w = 0 then andR (wantPR p) (wantC 3001) else if w = 1 then pairZ p 3001 else if w = 2 ∨ w = 3 ∨ w = 4 then andR (wantPR p) (wantT t) else
  if w = 5 then andR (wantK c) (wantT t) else if w = 6 then andR (wantK c) (wantC 3001) else if w = 7 then (match wantP p with | .error e => .er e.1 e.2 | .ok _ => wantS [.tuple [.int 0]] (-1)) else
  if w = 8 then (match wantP p with | .error e => .er e.1 e.2 | .ok _ => .er "BadPlace" (.tuple [.int (-1)])) else if w = 9 then andR (wantPR p) (.er "TooMany" (.int 9)) else
  if w = 10 ∨ w = 11 then andR (wantPR p) (wantPR (.int 7)) else joinZ t (.int 5) "xor"
theorem z3001 : ((List.replicate 3001 [PyData.int 0]).flatten).length = 3001 := by decide +kernel
theorem er3 (a : Rz) : isEr (andR a (wantC 3001)) = true := by
  cases a <;> rfl
theorem okI (i : Int) : okD (.int i) := ⟨rfl, rfl⟩
structure PreA (w : Nat) (p t : PyData) (c : List PyData) : Prop where
  w12 : w ≤ 12
  np : noL p = true
  op : okD p
  ot : okD t
  oc : okD (.tuple c)
  er : isEr (askedZ w p t c) = true
  pl : p = .tuple [] ∨ ∃ e, wantP p = .error e
def spAsked (K : PySem.W.Frag) : Sp := fun vs H Q E => ∃ w x y z u o p t c od, vs = [.int ((w : Nat) : Int), x, y, z, u, o] ∧ Dp K H x p ∧ Dp K H y t ∧ Dp K H z (.tuple c) ∧ Dp K H u (zeros 3001) ∧ Dp K H o od ∧ PreA w p t c ∧ EndD K H Q E (askedZ w p t c)
theorem H_law_asked (T : Tx P K mg) (U : Tcl K mg) : Has P w K mg base 16 "_law_asked" ["way", "program", "table", "code", "choices", "other"] (spAsked K) := by
  refine T.d_law_asked.has sc_law_asked (fun _ _ _ _ _ _ us hl => match us, hl with | [_, _, _, _, _, _], _ => rfl) (fun vs H Q E h => by obtain ⟨_, _, _, _, _, _, _, _, _, _, rfl, _⟩ := h; rfl) (fun f cdv A outer s H vs Q E hr h => ⟨?t, ?b, ?rd⟩)
  case b =>
    refine' (pss_cons (ps_if (pt_cmpR op_eq (pv 0) pe_int (nomark _)) (pss_one (ps_ret (pe_callQ (H_play T U) (hr.mono (by omega)) pasX (pa_cons (pv 1) (pa_cons (pv 4) pa_nil))))) pss_nil)
  (pss_cons (ps_if (pt_cmpR op_eq (pv 0) pe_int (nomark _)) (pss_one (ps_ret (pe_callQ (H_pair_word T U) (hr.mono (by omega)) pasX (pa_cons (pv 1) (pa_cons (pv 4) (pa_cons (pe_un un_neg pe_int) (pa_cons (pe_un un_neg pe_int) pa_nil))))))) pss_nil)
  (pss_cons (ps_if (pt_cmpR op_eq (pv 0) pe_int (nomark _)) (pss_one (ps_ret (pe_callQ (H_least_steps T) (hr.mono (by omega)) pasX (pa_cons (pv 1) (pa_cons (pv 2) pa_nil))))) pss_nil)
  (pss_cons (ps_if (pt_cmpR op_eq (pv 0) pe_int (nomark _)) (pss_one (ps_ret (pe_callQ (H_breaking T) (hr.mono (by omega)) pasX (pa_cons (pv 1) (pa_cons (pv 2) pa_nil))))) pss_nil)
  (pss_cons (ps_if (pt_cmpR op_eq (pv 0) pe_int (nomark _)) (pss_one (ps_ret (pe_callQ (H_told_run T) (hr.mono (by omega)) pasX (pa_cons (pv 1) (pa_cons (pv 2) (pa_cons (pv 4) pa_nil)))))) pss_nil)
  (pss_cons (ps_if (pt_cmpR op_eq (pv 0) pe_int (nomark _)) (pss_one (ps_ret (pe_callQ (H_watch T) (hr.mono (by omega)) pasX (pa_cons (pv 3) (pa_cons (pv 2) (pa_cons (pv 4) pa_nil)))))) pss_nil)
  (pss_cons (ps_if (pt_cmpR op_eq (pv 0) pe_int (nomark _)) (pss_one (ps_ret (pe_callQ (H_run T) (hr.mono (by omega)) pasX (pa_cons (pv 3) (pa_cons (pv 4) pa_nil))))) pss_nil)
  (pss_cons (ps_if (pt_cmpR op_eq (pv 0) pe_int (nomark _)) (pss_one (ps_ret (pe_callQ (H_steps_of T) (hr.mono (by omega)) pasX (pa_cons (pv 1) (pa_cons (pe_tup (pa_cons (pe_tup (pa_cons (pe_un un_neg pe_int) pa_nil)) (pa_cons pe_int (pa_cons pe_int pa_nil)))) pa_nil))))) pss_nil)
  (pss_cons (ps_if (pt_cmpR op_eq (pv 0) pe_int (nomark _)) (pss_one (ps_ret (pe_callQ (H_next_place T) (hr.mono (by omega)) pasX (pa_cons (pv 1) (pa_cons (pe_tup (pa_cons (pe_un un_neg pe_int) pa_nil)) pa_nil))))) pss_nil)
  (pss_cons (ps_if (pt_cmpR op_eq (pv 0) pe_int (nomark _)) (pss_one (ps_ret (pe_makeH (I_Book T U) (hr.mono (by omega)) pasX (pa_cons (pv 1) (pa_cons (pe_op (op_repD (K := K)) (pe_tup (pa_cons (pv 5) pa_nil)) pe_int) pa_nil))))) pss_nil)
  (pss_cons (ps_if (pt_cmpR op_eq (pv 0) pe_int (nomark _)) (pss_one (ps_ret (pe_callQ (H_alike T) (hr.mono (by omega)) pasX (pa_cons (pv 1) (pa_cons pe_int pa_nil))))) pss_nil)
  (pss_one (ps_ret (pe_ifExp (pt_cmpR op_eq (pv 0) pe_int (nomark _)) (pe_callQ (H_parting T) (hr.mono (by omega)) pasX (pa_cons (pv 1) (pa_cons pe_int pa_nil))) (pe_callQ (H_joined T U) (hr.mono (by omega)) pasX (pa_cons (pv 2) (pa_cons pe_int (pa_cons pe_str pa_nil))))))))))))))))))
  case rd =>
  obtain ⟨w, x, y, z, u, o, p, t, c, od, rfl, hx, hy, hz, hu, ho, pre, q⟩ := h
  walk_at "rd"
  obtain ⟨w12, np, op, ot, oc, er, pl⟩ := pre
  have hw : w = 0 ∨ w = 1 ∨ w = 2 ∨ w = 3 ∨ w = 4 ∨ w = 5 ∨ w = 6 ∨ w = 7 ∨ w = 8 ∨ w = 9 ∨ w = 10 ∨ w = 11 ∨ w = 12 := by omega
  rcases hw with rfl | rfl | rfl | rfl | rfl | rfl | rfl | rfl | rfl | rfl | rfl | rfl | rfl
  · rw [if_pos (by decide)]
    change EndD K H Q E (andR (wantPR p) (wantC 3001)) at q
    exact ⟨x, u, p, _, rfl, hx, np, op, hu, by rw [z3001]; exact er3 _, by rw [z3001]; exact q⟩
  · rw [if_neg (by decide), if_pos (by decide)]
    change EndD K H Q E (pairZ p 3001) at q
    exact ⟨1, rfl, 1, rfl, x, u, p, _, rfl, hx, np, op, hu, .inl (by rw [z3001]; exact er3 _), by rw [z3001]; exact q⟩
  · rw [if_neg (by decide), if_neg (by decide), if_pos (by decide)]
    change EndD K H Q E (andR (wantPR p) (wantT t)) at q
    exact ⟨x, y, p, t, rfl, hx, np, op, hy, ot, er, q⟩
  · rw [if_neg (by decide), if_neg (by decide), if_neg (by decide), if_pos (by decide)]
    change EndD K H Q E (andR (wantPR p) (wantT t)) at q
    exact ⟨x, y, p, t, rfl, hx, np, op, hy, ot, er, q⟩
  · rw [if_neg (by decide), if_neg (by decide), if_neg (by decide), if_neg (by decide), if_pos (by decide)]
    change EndD K H Q E (andR (wantPR p) (wantT t)) at q
    exact ⟨x, y, u, p, t, rfl, hx, np, op, hy, ot, er, q⟩
  · rw [if_neg (by decide), if_neg (by decide), if_neg (by decide), if_neg (by decide), if_neg (by decide), if_pos (by decide)]
    change EndD K H Q E (andR (wantK c) (wantT t)) at q
    exact ⟨z, y, u, c, t, rfl, hz, oc, hy, ot, er, q⟩
  · rw [if_neg (by decide), if_neg (by decide), if_neg (by decide), if_neg (by decide), if_neg (by decide), if_neg (by decide), if_pos (by decide)]
    change EndD K H Q E (andR (wantK c) (wantC 3001)) at q
    exact ⟨z, u, c, _, rfl, hz, oc, hu, by rw [z3001]; exact er3 _, by rw [z3001]; exact q⟩
  · rw [if_neg (by decide), if_neg (by decide), if_neg (by decide), if_neg (by decide), if_neg (by decide), if_neg (by decide), if_neg (by decide), if_pos (by decide)]
    refine ⟨1, rfl, mkT_D (K := K) (.cons (.int _) .nil) (by simp) fun H1 t1 s1 h1 => mkT_D (K := K) (.cons h1 (.cons (.int 5) (.cons (.int 5) .nil))) (by simp) fun H2 t2 s2 h2 => ?_⟩
    exact ⟨x, t2, p, -1, rfl, hx.mv (s1.trans s2), np, op, h2, pl, EndD.mv q (s1.trans s2)⟩
  · rw [if_neg (by decide), if_neg (by decide), if_neg (by decide), if_neg (by decide), if_neg (by decide), if_neg (by decide), if_neg (by decide), if_neg (by decide), if_pos (by decide)]
    refine ⟨1, rfl, mkT_D (K := K) (.cons (.int _) .nil) (by simp) fun H1 t1 s1 h1 => ?_⟩
    exact ⟨x, t1, p, -1, rfl, hx.mv s1, np, op, h1, pl, EndD.mv q s1⟩
  · rw [if_neg (by decide), if_neg (by decide), if_neg (by decide), if_neg (by decide), if_neg (by decide), if_neg (by decide), if_neg (by decide), if_neg (by decide), if_neg (by decide), if_pos (by decide)]
    change EndD K H Q E (andR (wantPR p) (.er "TooMany" (.int 9))) at q
    unfold tMake
    walk_at "rd"
    refine mkT_D (K := K) (.cons ho .nil) (by simp) fun H1 t1 s1 h1 => ⟨[od], 9, rfl, h1, by simp, by decide, by decide, by simp, fun H2 v2 s2 h2 => ?_⟩
    intro b db hb hdb hne
    have s3 : Same H2 (upd (upd H2 db (.own b)) b (.ins (He.ga K "Book") db [])) := fun a u ha => by
      rw [upd_ne (ne_of_none ha hb), upd_ne (ne_of_none ha hdb)]
      exact ha
    have s4 := s1.trans (s2.trans s3)
    exact ⟨_, x, v2, p, _, rfl, hx.mv s4, np, op, h2.mv s3, by simp, EndD.mv (endEr (by cases wantPR p <;> rfl) q) s4⟩
  · rw [if_neg (by decide), if_neg (by decide), if_neg (by decide), if_neg (by decide), if_neg (by decide), if_neg (by decide), if_neg (by decide), if_neg (by decide), if_neg (by decide), if_neg (by decide), if_pos (by decide)]
    change EndD K H Q E (andR (wantPR p) (wantPR (.int 7))) at q
    exact ⟨x, _, p, .int 7, rfl, hx, np, op, .int 7, rfl, okI 7, er, q⟩
  · rw [if_neg (by decide), if_neg (by decide), if_neg (by decide), if_neg (by decide), if_neg (by decide), if_neg (by decide), if_neg (by decide), if_neg (by decide), if_neg (by decide), if_neg (by decide), if_neg (by decide), if_pos (by decide)]
    change EndD K H Q E (andR (wantPR p) (wantPR (.int 7))) at q
    exact ⟨x, _, p, .int 7, rfl, hx, np, op, .int 7, rfl, okI 7, er, q⟩
  · rw [if_neg (by decide), if_neg (by decide), if_neg (by decide), if_neg (by decide), if_neg (by decide), if_neg (by decide), if_neg (by decide), if_neg (by decide), if_neg (by decide), if_neg (by decide), if_neg (by decide), if_neg (by decide)]
    change EndD K H Q E (joinZ t (.int 5) "xor") at q
    exact ⟨y, _, t, .int 5, "xor", rfl, hy, ot, .int 5, okI 5, by decide, by decide, by decide, q⟩

end
end An
namespace An
open PySem PySem.Spec PyProof.Rows L2
local macro_rules | `(tactic| walk_at "rd") => `(tactic| simp only [tSeq, tIfS, tRet, tRetN, tAndV, tOrV, tNotV, tCB, tCons, tVar, tC, tNil, rIsD, L2.start, tAnd, tOr, tNot, tB, tTest, tOp, tIf, tChain, tAsg, gName, gNil, gCons, tDrop, tCall, tNext, tFld, sFld, tRaiseR, tMkR, tSl, tPart, tNoPart, tBM, iTup, iList, iEnumT, tYes, tNever, cxOf, wipe, tPar, tPar3, tTup_eq, tLst_eq, rEq_str, rEq_int, rEq_bl, rNe_str, rNe_int, rI0_int, decide_eq_true_eq, Bool.not_eq_true',
  List.map_cons, List.map_nil, List.cons_append, List.nil_append, List.append_nil, List.getElem?_cons_zero, List.getElem?_cons_succ, Option.some.injEq, exists_eq_left', exists_eq_left, List.cons.injEq, and_true, true_and, List.set_cons_zero, List.set_cons_succ, V.bl.injEq, V.int.injEq, V.str.injEq, V.ref.injEq, V.ty.injEq, List.replicate, List.length_cons, List.length_nil, Nat.zero_add, Nat.reduceAdd, Nat.reduceSub, ite_true, ite_false, Bool.false_eq_true, if_false, if_true])
section
variable {P : Program} {w : World} {K : PySem.W.Frag} {mg : Str → Option Value} {base : Heap}

/-- what the top has left of the errors' classes -/
structure Txe (K : PySem.W.Frag) : Prop where
  exm : ∀ c ∈ errs7, ∀ c' ∈ errs7, PySem.W.exmOne K (.ref (He.ga K c)) (.ref (He.ga K c')) = some (decide (c = c'))
  xf : ∀ c ∈ errs7, XfC K (He.ga K c)
  nw : ∀ c ∈ errs7, PySem.W.findIn K (.ref (He.ga K c)) "what" = some none
/-- an error's wish within a try: whatever the names hold -/
def WL (n : Nat) (W : WX) : XK := fun cls d H => ∀ σ : L2.St, σ.length = n → W cls d σ H
theorem passTry {X : Cx} {W : WX} {n : Nat} (hn : X.N.length = n) (tk : Takes X W) : Passes (L2.CX X.prog X.w) X (WL n W) := fun _ σ _ _ e s' I c => tk e s' (XE.of_call I (fun _ _ _ h => h σ (I.len.trans hn)) c)
def tsE (K : PySem.W.Frag) (i : Nat) (c : Str) : Addr → Value → Option Addr → TS := fun a cls d => tRet (tTup (tCons (tC (.str c)) (tCons (tXf a cls d (He.ga K c) "what" (tVar i)) tNil)))
theorem many_errs (V : Txe K) {i : Nat} {Wout : WX} {D : Ends} {H : Hp} {dx : Addr} {v : L2.V} {z : PyData} {c : Str} (hc : c ∈ errs7) (hx : H dx = some (.xd [(("what" : Str), v)])) (hv : Dp K H v z) (q : QD K H (.tuple [.str c, z]) D.rt) :
    ∀ (l : List Str), (∀ c' ∈ l, c' ∈ errs7) → c ∈ l → ∀ σ : L2.St, i < σ.length → wManyAs K i Wout D (l.map fun c' => ((Value.ref (He.ga K c')), tsE K i c')) (.ref (He.ga K c)) (some dx) σ H
  | [], _, h, _, _ => absurd h (by simp)
  | c' :: l, hl, h, σ, hi => by
    refine ⟨decide (c = c'), V.exm c hc c' (hl c' List.mem_cons_self), fun e a ha => ?_, fun e => many_errs V hc hx hv q l (fun c2 h2 => hl c2 (List.mem_cons_of_mem _ h2)) ?_ σ hi⟩
    · have e' : c = c' := of_decide_eq_true e
      subst e'
      refine ⟨.ref a, ?_, rfl, rfl, dx, _, v, rfl, hx, ?_, ?_⟩
      · rw [List.getElem?_set_self hi]
      · simp [List.lookup]
      · exact mkT_D (.cons (.str c) (.cons hv .nil)) (by simp) fun H1 t s1 ht => q _ _ s1 ht
    · have e' : c ≠ c' := of_decide_eq_false e
      rcases List.mem_cons.mp h with h | h
      · exact absurd h e'
      · exact h
def spRefusal (K : PySem.W.Frag) : Sp := fun vs H Q E => ∃ w x y z u o p t c od cl wh, vs = [.int ((w : Nat) : Int), x, y, z, u, o] ∧ Dp K H x p ∧ Dp K H y t ∧ Dp K H z (.tuple c) ∧ Dp K H u (zeros 3001) ∧ Dp K H o od ∧ PreA w p t c ∧ askedZ w p t c = .er cl wh ∧ cl ∈ errs7 ∧ QD K H (.tuple [.str cl, wh]) Q
theorem H_law_refusal (T : Tx P K mg) (U : Tcl K mg) (V : Txe K) : Has P w K mg base 17 "_law_refusal" ["way", "program", "table", "code", "choices", "other"] (spRefusal K) := by
  refine T.d_law_refusal.has sc_law_refusal (fun _ _ _ _ _ _ us hl => match us, hl with | [_, _, _, _, _, _], _ => rfl) (fun vs H Q E h => by obtain ⟨_, _, _, _, _, _, _, _, _, _, _, _, rfl, _⟩ := h; rfl) (fun f cdv A outer s H vs Q E hr h => ⟨?t, ?b, ?rd⟩)
  case b =>
    refine' (pss_cons (ps_try_manyAs (i := 6) (n := "e") (tb := fun W => tDrop (tCall (spAsked K) [] (WL 7 W) (tCons (tVar 0) (tCons (tVar 1) (tCons (tVar 2) (tCons (tVar 3) (tCons (tVar 4) (tCons (tVar 5) tNil)))))))) (Wout := fun cls d _ H => E cls d H)
      (l := errs7.map fun c' => ((Value.ref (He.ga K c')), tsE K 6 c')) rfl rfl sc_law_refusal.nd rfl rfl (takes_of rfl rfl rfl rfl)
      (fun W pn xe tk _ => pss_one (ps_expr (pe_callQ (H_law_asked T U) hr (passTry rfl tk) (pa_cons (pv 0) (pa_cons (pv 1) (pa_cons (pv 2) (pa_cons (pv 3) (pa_cons (pv 4) (pa_cons (pv 5) pa_nil)))))))))
      ?c1)
  (pss_one (ps_ret pe_non)))
    case c1 => exact (.cons ⟨rfl, by decide, .inl T.g_BadProgram⟩ (fun a oe cls d pn hz hf => pss_one (ps_ret (pe_tup (pa_cons pe_str (pa_cons (pe_xf (V.xf "BadProgram" (by decide)) (V.nw "BadProgram" (by decide)) hz hf (pv 6)) pa_nil))))) (.cons ⟨rfl, by decide, .inl T.g_BadTable⟩ (fun a oe cls d pn hz hf => pss_one (ps_ret (pe_tup (pa_cons pe_str (pa_cons (pe_xf (V.xf "BadTable" (by decide)) (V.nw "BadTable" (by decide)) hz hf (pv 6)) pa_nil))))) (.cons ⟨rfl, by decide, .inl T.g_BadCode⟩ (fun a oe cls d pn hz hf => pss_one (ps_ret (pe_tup (pa_cons pe_str (pa_cons (pe_xf (V.xf "BadCode" (by decide)) (V.nw "BadCode" (by decide)) hz hf (pv 6)) pa_nil))))) (.cons ⟨rfl, by decide, .inl T.g_BadPlace⟩ (fun a oe cls d pn hz hf => pss_one (ps_ret (pe_tup (pa_cons pe_str (pa_cons (pe_xf (V.xf "BadPlace" (by decide)) (V.nw "BadPlace" (by decide)) hz hf (pv 6)) pa_nil))))) (.cons ⟨rfl, by decide, .inl T.g_BadThing⟩ (fun a oe cls d pn hz hf => pss_one (ps_ret (pe_tup (pa_cons pe_str (pa_cons (pe_xf (V.xf "BadThing" (by decide)) (V.nw "BadThing" (by decide)) hz hf (pv 6)) pa_nil))))) (.cons ⟨rfl, by decide, .inl T.g_BadWord⟩ (fun a oe cls d pn hz hf => pss_one (ps_ret (pe_tup (pa_cons pe_str (pa_cons (pe_xf (V.xf "BadWord" (by decide)) (V.nw "BadWord" (by decide)) hz hf (pv 6)) pa_nil))))) (.cons ⟨rfl, by decide, .inl T.g_TooMany⟩ (fun a oe cls d pn hz hf => pss_one (ps_ret (pe_tup (pa_cons pe_str (pa_cons (pe_xf (V.xf "TooMany" (by decide)) (V.nw "TooMany" (by decide)) hz hf (pv 6)) pa_nil))))) .nil)))))))
  case rd =>
    obtain ⟨w, x, y, z, u, o, p, t, c, od, cl, wh, rfl, hx, hy, hz, hu, ho, pre, e, hcl, q⟩ := h
    refine ⟨_, rfl, _, rfl, _, rfl, _, rfl, _, rfl, _, rfl, w, x, y, z, u, o, p, t, c, od, rfl, hx, hy, hz, hu, ho, pre, ?_⟩
    rw [e]
    exact fun H' v dx s1 hv hx σ hσ => many_errs V hcl hx hv (q.mv s1) errs7 (fun _ h => h) hcl σ (by rw [hσ]; decide)

end
end An
namespace An
open PySem PySem.Spec PyProof.Rows L2
local macro_rules | `(tactic| walk_at "rd") => `(tactic| simp only [tSeq, tIfS, tRet, tRetN, tAndV, tOrV, tNotV, tCB, tCons, tVar, tC, tNil, rIsD, L2.start, tAnd, tOr, tNot, tB, tTest, tOp, tIf, tChain, tAsg, gName, gNil, gCons, tDrop, tCall, tNext, tFld, sFld, tRaiseR, tMkR, tSl, tPart, tNoPart, tBM, iTup, iList, iEnumT, tYes, tNever, cxOf, wipe, tPar, tPar3, tTup_eq, tLst_eq, rEq_str, rEq_int, rEq_bl, rNe_str, rNe_int, rI0_int, decide_eq_true_eq, Bool.not_eq_true',
  List.map_cons, List.map_nil, List.cons_append, List.nil_append, List.append_nil, List.getElem?_cons_zero, List.getElem?_cons_succ, Option.some.injEq, exists_eq_left', exists_eq_left, List.cons.injEq, and_true, true_and, List.set_cons_zero, List.set_cons_succ, V.bl.injEq, V.int.injEq, V.str.injEq, V.ref.injEq, V.ty.injEq, List.replicate, List.length_cons, List.length_nil, Nat.zero_add, Nat.reduceAdd, Nat.reduceSub, ite_true, ite_false, Bool.false_eq_true, if_false, if_true])
section
variable {P : Program} {w : World} {K : PySem.W.Frag} {mg : Str → Option Value} {base : Heap}

theorem ev_neg {σ : L2.St} {H : Hp} {i : Int} : EvS K (tUn (rU fun i => .int (-i)) (tC (.int i))) σ H (.int (-i)) := fun H' _ _ q => ⟨i, rfl, q.now (.int _)⟩
local macro_rules | `(tactic| walk_at "ev") => `(tactic| repeat' first
  | exact evs_nil
  | refine evs_cons ?_ ?_
  | exact ev_int
  | exact ev_str
  | exact ev_bl
  | exact ev_non
  | exact ev_neg
  | exact ev_var rfl (by assumption)
  | refine ev_tup ?_ (by first | decide | simp)
  | refine ev_rep ?_ (by simp) (by decide) (by decide) (by decide))
/-- a test by data -/
def TrS (K : PySem.W.Frag) (c : TT) (σ : L2.St) (H : Hp) (k : Bool) : Prop := ∀ H', Same H H' → ∀ Q : Bool → Hp → Prop, (∀ H2, Same H' H2 → Q k H2) → c σ H' Q
theorem st_if {c : TT} {a u : TS} {D : Ends} {σ : L2.St} {H : Hp} {k : Bool} (hc : TrS K c σ H k) (ht : k = true → ∀ H', Same H H' → a { D with nx := u D } σ H') (hf : k = false → ∀ H', Same H H' → u D σ H') : tSeq (tIfS c a tNext) u D σ H := by
  refine hc H (Same.refl H) _ fun H2 s2 => ?_
  cases k with
  | true => exact ht rfl H2 s2
  | false => exact hf rfl H2 s2
theorem dpall_nats {H : Hp} : ∀ {ls : List Nat} {vs : List L2.V}, DpAll K H vs (ls.map fun (n : Nat) => .int (n : Int)) → vs = ls.map fun (n : Nat) => V.int (n : Int)
  | [], _, h => by cases h; rfl
  | n :: ls, _, h => by
    cases h with
    | cons h1 h2 =>
      cases dp_int h1
      rw [dpall_nats h2]
      rfl
theorem un1 {A : Around} {k : Nat} (r : Room k A) : A.units + 1 < cLine := by have := r.un; omega
def isNn : PyData → Bool
  | .none => true
  | _ => false
def dueD (w : Nat) (pe te ce : PyData) : PyData :=
  if ([0, 1, 2, 3, 4, 7, 8, 9, 10, 11].contains w && !isNn pe) = true then pe else if ([5, 6].contains w && !isNn ce) = true then ce else if ([2, 3, 4, 5, 12].contains w && !isNn te) = true then te else
  if ([0, 1, 4, 5, 6].contains w) = true then err "TooMany" (.int 3001) else if w = 7 ∨ w = 8 then err "BadPlace" (.tuple [.int (-1)]) else if w = 9 then err "TooMany" (.int 9) else if w = 10 ∨ w = 11 then err "BadProgram" (.tuple []) else if w = 12 then err "BadTable" (.int 0) else .none
theorem dp_isnon {H : Hp} {v : V} {d : PyData} (h : Dp K H v d) : decide (v = .non) = isNn d := by
  cases h <;> rfl
theorem inV_nats (w : Nat) : ∀ ls : List Nat, inV (.int (w : Int)) (ls.map fun (n : Nat) => V.int (n : Int)) = ls.contains w
  | [] => rfl
  | n :: ls => by
    have ih := inV_nats w ls
    unfold inV at ih ⊢
    rw [List.map_cons, List.any_cons, ih, List.contains_cons]
    show (decide ((n : Int) = (w : Int)) || _) = _
    rw [show decide ((n : Int) = (w : Int)) = (w == n) from Bool.eq_iff_iff.mpr (by simp; omega)]
theorem flat_nats : ∀ ls : List Nat, (ls.map fun (n : Nat) => V.int (n : Int)).all flatV = true
  | [] => rfl
  | n :: ls => by rw [List.map_cons, List.all_cons, flat_nats ls]; rfl
theorem tr_in {ls : List Nat} {σ : L2.St} {H : Hp} {ta : TA} {w : Nat} (h0 : σ[0]? = some (some (.int (w : Int)))) (hT : EvsS K ta σ H (ls.map fun (n : Nat) => .int (n : Int))) (hl : ls.length ≤ 1000) : TrS K (tTest (tOp (rIn K false) (tVar 0) (tTup ta))) σ H (ls.contains w) := by
  intro H' s Q q
  refine ⟨_, h0, hT H' s _ fun H2 vs s2 hvs => ?_⟩
  have e := dpall_nats hvs
  subst e
  refine ⟨by rw [List.length_map]; exact Nat.le_of_lt (small1000 hl), fun p hp => ?_⟩
  refine ⟨p, _, rfl, .inr (.inl (.inl upd_same)), rfl, flat_nats ls, _, rfl, ?_⟩
  rw [if_neg Bool.false_ne_true, inV_nats]
  exact q _ (s2.trans (Same.new hp))
theorem tr_nn {σ : L2.St} {H : Hp} {i : Nat} {x : L2.V} {a b : PyData} (h0 : σ[i]? = some (some x)) (hx : Dp K H x (.tuple [a, b])) : TrS K (tTest (tOp (fun x y H Q => y = .non ∧ Q (.bl (!decide (x = .non))) H) (tOp (rIxDp K) (tVar i) (tC (.int 1))) (tC .non))) σ H (!isNn b) := by
  intro H' s Q q
  refine ⟨_, h0, _, 1, _, rfl, hx.mv s, rfl, fun v hv => ⟨rfl, _, rfl, ?_⟩⟩
  rw [dp_isnon hv]
  exact q _ (Same.refl _)
theorem tr_and {c d : TT} {σ : L2.St} {H : Hp} {j k : Bool} (h1 : TrS K c σ H j) (h2 : TrS K d σ H k) : TrS K (tAnd c d) σ H (j && k) := fun H' s Q q => h1 H' s _ fun H2 s2 => by
  cases j with
  | true => exact h2 H2 (s.trans s2) _ fun H3 s3 => q H3 (s2.trans s3)
  | false => exact q H2 s2
theorem ix1 {σ : L2.St} {H : Hp} {i : Nat} {x : L2.V} {a b : PyData} (h0 : σ[i]? = some (some x)) (hx : Dp K H x (.tuple [a, b])) : EvS K (tOp (rIxDp K) (tVar i) (tC (.int 1))) σ H b := fun H' s Q q => ⟨_, h0, _, 1, _, rfl, hx.mv s, rfl, fun v hv => q.now hv⟩
theorem pairs_step {σ : L2.St} {H : Hp} {k : L2.V} {tv : TE} {r : List (TE × TE)} {d : PyData} {Q : List (L2.V × L2.V) → Hp → Prop} (h : EvS K tv σ H d) (q : ∀ H' v, Same H H' → Dp K H' v d → tPairs r σ H' fun ps H3 => Q ((k, v) :: ps) H3) : tPairs ((tC k, tv) :: r) σ H Q := h H (Same.refl H) _ q
section
variable {H H' : Hp} {l : Addr} {ys : List (Key × L2.V)}
theorem SameB.neK (e : H l = some (.dK ys)) {a : Addr} {u : HO} (h : H a = some u) (n : ∀ q, u ≠ HO.dK q) : a ≠ l := fun z => by
  rw [z, e] at h
  exact n ys (Option.some.inj h).symm
theorem SqT.sbK (s : SameB l H H') (e : H l = some (.dK ys)) {a : Addr} {xs : List L2.V} (h : SqT K H a xs) : SqT K H' a xs := by
  rcases h with (h | ⟨o, h⟩) | h
  · exact .inl (.inl (s _ _ (SameB.neK e h fun q z => by cases z) h))
  · exact .inl (.inr ⟨o, s _ _ (SameB.neK e h fun q z => by cases z) h⟩)
  · exact .inr h
mutual
theorem Dp.sbK (s : SameB l H H') (e : H l = some (.dK ys)) : ∀ (d : PyData) (v : L2.V), noL d = true → Dp K H v d → Dp K H' v d
  | .none, _, _, h => by cases h; exact .non
  | .bool b, _, _, h => by cases h; exact .bl b
  | .int i, _, _, h => by cases h; exact .int i
  | .str x, _, _, h => by cases h; exact .str x
  | .list ds, _, n, h => by simp [noL] at n
  | .tuple ds, _, n, h => by
    cases h with
    | tup hs ha => exact .tup (SqT.sbK s e hs) (DpAll.sbK s e ds _ (by simpa [noL] using n) ha)
  | .dict _, _, _, h => by cases h
theorem DpAll.sbK (s : SameB l H H') (e : H l = some (.dK ys)) : ∀ (ds : List PyData) (vs : List L2.V), noLs ds = true → DpAll K H vs ds → DpAll K H' vs ds
  | [], _, _, h => by cases h; exact .nil
  | d :: ds, _, n, h => by
    rw [noLs, Bool.and_eq_true] at n
    cases h with
    | cons h1 h2 => exact .cons (Dp.sbK s e d _ n.1 h1) (DpAll.sbK s e ds _ n.2 h2)
end
end
def spDue (K : PySem.W.Frag) : Sp := fun vs H Q _ => ∃ w x y z u pp pe tp te cp ce, vs = [.int ((w : Nat) : Int), x, y, z, u] ∧ w ≤ 12 ∧ Dp K H x (.tuple [pp, pe]) ∧ Dp K H y (.tuple [tp, te]) ∧ Dp K H z (.tuple [cp, ce]) ∧ Dp K H u chs ∧ QD K H (dueD w pe te ce) Q
theorem H_law_due (T : Tx P K mg) : Has P w K mg base 1 "_law_due" ["way", "program", "table", "code", "choices"] (spDue K) := by
  refine T.d_law_due.has sc_law_due (fun _ _ _ _ _ _ us hl => match us, hl with | [_, _, _, _, _], _ => rfl) (fun vs H Q E h => by obtain ⟨_, _, _, _, _, _, _, _, _, _, _, rfl, _⟩ := h; rfl) (fun f cdv A outer s H vs Q E hr h => ⟨?t, ?b, ?rd⟩)
  case b =>
    refine' (pss_cons (ps_if (PW.pt (pw_and (pt_cmpR (op_inK (K := K)) (pv 0) (pe_tup (pa_cons pe_int (pa_cons pe_int (pa_cons pe_int (pa_cons pe_int (pa_cons pe_int (pa_cons pe_int (pa_cons pe_int (pa_cons pe_int (pa_cons pe_int (pa_cons pe_int pa_nil))))))))))) rfl) (pw_and1 (pt_cmpR op_notN (pe_ix (ix_D (K := K)) (pv 1) pe_int (fun _ _ => rfl)) pe_non (nomark _))))) (pss_one (ps_ret (pe_ix (ix_D (K := K)) (pv 1) pe_int (fun _ _ => rfl)))) pss_nil)
  (pss_cons (ps_if (PW.pt (pw_and (pt_cmpR (op_inK (K := K)) (pv 0) (pe_tup (pa_cons pe_int (pa_cons pe_int pa_nil))) rfl) (pw_and1 (pt_cmpR op_notN (pe_ix (ix_D (K := K)) (pv 3) pe_int (fun _ _ => rfl)) pe_non (nomark _))))) (pss_one (ps_ret (pe_ix (ix_D (K := K)) (pv 3) pe_int (fun _ _ => rfl)))) pss_nil)
  (pss_cons (ps_if (PW.pt (pw_and (pt_cmpR (op_inK (K := K)) (pv 0) (pe_tup (pa_cons pe_int (pa_cons pe_int (pa_cons pe_int (pa_cons pe_int (pa_cons pe_int pa_nil)))))) rfl) (pw_and1 (pt_cmpR op_notN (pe_ix (ix_D (K := K)) (pv 2) pe_int (fun _ _ => rfl)) pe_non (nomark _))))) (pss_one (ps_ret (pe_ix (ix_D (K := K)) (pv 2) pe_int (fun _ _ => rfl)))) pss_nil)
  (pss_cons (ps_if (pt_cmpR (op_inK (K := K)) (pv 0) (pe_tup (pa_cons pe_int (pa_cons pe_int (pa_cons pe_int (pa_cons pe_int (pa_cons pe_int pa_nil)))))) rfl) (pss_one (ps_ret (pe_ix (ix_D (K := K)) (pv 4) pe_int (fun _ _ => rfl)))) pss_nil)
  (pss_cons (ps_set (i := 5) sc_law_due.nd rfl (Or.inl rfl) (pe_disp (pps_cons pe_int (pe_tup (pa_cons pe_str (pa_cons (pe_tup (pa_cons (pe_un un_neg pe_int) pa_nil)) pa_nil))) (pps_cons pe_int (pe_tup (pa_cons pe_str (pa_cons (pe_tup (pa_cons (pe_un un_neg pe_int) pa_nil)) pa_nil))) (pps_cons pe_int (pe_tup (pa_cons pe_str (pa_cons pe_int pa_nil))) (pps_cons pe_int (pe_tup (pa_cons pe_str (pa_cons (pe_tup pa_nil) pa_nil))) (pps_cons pe_int (pe_tup (pa_cons pe_str (pa_cons (pe_tup pa_nil) pa_nil))) (pps_cons pe_int (pe_tup (pa_cons pe_str (pa_cons pe_int pa_nil))) pps_nil)))))) rfl rfl (by simp) (by decide)))
  (pss_one (ps_ret (pe_dget2 (un1 hr) (pv 5) (pv 0) pe_non ⟨rfl, rfl, rfl, rfl⟩))))))))
  case rd =>
  obtain ⟨w, x, y, z, u, pp, pe, tp, te, cp, ce, rfl, hw, hx, hy, hz, hu, q⟩ := h
  refine st_if (k := [0, 1, 2, 3, 4, 7, 8, 9, 10, 11].contains w && !isNn pe) (tr_and (tr_in rfl (by walk_at "ev") (by decide)) (tr_nn rfl hx)) (fun e H1 s1 => ?_) (fun e1 H1 s1 => ?_)
  · unfold dueD at q
    rw [if_pos e] at q
    exact ret_ev (K := K) (d := pe) (ix1 rfl (hx.mv s1)) (q.mv s1)
  refine st_if (k := [5, 6].contains w && !isNn ce) (tr_and (tr_in rfl (by walk_at "ev") (by decide)) (tr_nn rfl (hz.mv s1))) (fun e H2 s2 => ?_) (fun e2 H2 s2 => ?_)
  · unfold dueD at q
    rw [if_neg (by rw [e1]; decide), if_pos e] at q
    exact ret_ev (K := K) (d := ce) (ix1 rfl (hz.mv (s1.trans s2))) (q.mv (s1.trans s2))
  refine st_if (k := [2, 3, 4, 5, 12].contains w && !isNn te) (tr_and (tr_in rfl (by walk_at "ev") (by decide)) (tr_nn rfl (hy.mv (s1.trans s2)))) (fun e H3 s3 => ?_) (fun e3 H3 s3 => ?_)
  · unfold dueD at q
    rw [if_neg (by rw [e1]; decide), if_neg (by rw [e2]; decide), if_pos e] at q
    exact ret_ev (K := K) (d := te) (ix1 rfl (hy.mv (s1.trans (s2.trans s3)))) (q.mv (s1.trans (s2.trans s3)))
  have s13 := s1.trans (s2.trans s3)
  refine st_if (k := [0, 1, 4, 5, 6].contains w) (tr_in rfl (by walk_at "ev") (by decide)) (fun e H4 s4 => ?_) (fun e4 H4 s4 => ?_)
  · unfold dueD at q
    rw [if_neg (by rw [e1]; decide), if_neg (by rw [e2]; decide), if_neg (by rw [e3]; decide), if_pos e] at q
    exact ret_ev (K := K) (d := err "TooMany" (.int 3001)) (ix1 rfl (hu.mv (s13.trans s4))) (q.mv (s13.trans s4))
  unfold dueD at q
  rw [if_neg (by rw [e1]; decide), if_neg (by rw [e2]; decide), if_neg (by rw [e3]; decide), if_neg (by rw [e4]; decide)] at q
  intro p hp
  refine pairs_step (K := K) (d := err "BadPlace" (.tuple [.int (-1)])) (by walk_at "ev") fun H5 v7 s5 h7 => ?_
  refine pairs_step (K := K) (d := err "BadPlace" (.tuple [.int (-1)])) (by walk_at "ev") fun H6 v8 s6 h8 => ?_
  refine pairs_step (K := K) (d := err "TooMany" (.int 9)) (by walk_at "ev") fun H7 v9 s7 h9 => ?_
  refine pairs_step (K := K) (d := err "BadProgram" (.tuple [])) (by walk_at "ev") fun H8 v10 s8 h10 => ?_
  refine pairs_step (K := K) (d := err "BadProgram" (.tuple [])) (by walk_at "ev") fun H9 v11 s9 h11 => ?_
  refine pairs_step (K := K) (d := err "BadTable" (.int 0)) (by walk_at "ev") fun H10 v12 s10 h12 => ?_
  have sp : Same (upd H4 p (.dK [])) H10 := s5.trans (s6.trans (s7.trans (s8.trans (s9.trans s10))))
  have hp10 : H10 p = some (.dK []) := sp _ _ upd_same
  refine ⟨hp10, [(.inl 7, v7), (.inl 8, v8), (.inl 9, v9), (.inl 10, v10), (.inl 11, v11), (.inl 12, v12)], rfl, by simp, ?_⟩
  have s4p : Same H4 (upd H10 p (.dK (mergeK [] [(.inl 7, v7), (.inl 8, v8), (.inl 9, v9), (.inl 10, v10), (.inl 11, v11), (.inl 12, v12)]))) := fun b o hb => by
    rw [upd_ne (ne_of_none hb hp)]
    exact sp _ _ (Same.new hp _ _ hb)
  have fin : ∀ (d : PyData) (v : L2.V) (H' : Hp), noL d = true → Dp K H' v d → Same H' H10 → QD K H d Q → Q v (upd H10 p (.dK (mergeK [] [(.inl 7, v7), (.inl 8, v8), (.inl 9, v9), (.inl 10, v10), (.inl 11, v11), (.inl 12, v12)]))) := fun d v H' nd hv s' q => q _ v (s13.trans (s4.trans s4p)) (Dp.sbK (l := p) SameB.upd hp10 _ _ nd (hv.mv s'))
  refine ⟨_, rfl, p, rfl, .inl ⟨_, .inl upd_same⟩, _, rfl, _, DGet.k (k := .inl w) upd_same, ?_⟩
  have hw' : w = 0 ∨ w = 1 ∨ w = 2 ∨ w = 3 ∨ w = 4 ∨ w = 5 ∨ w = 6 ∨ w = 7 ∨ w = 8 ∨ w = 9 ∨ w = 10 ∨ w = 11 ∨ w = 12 := by omega
  rcases hw' with rfl | rfl | rfl | rfl | rfl | rfl | rfl | rfl | rfl | rfl | rfl | rfl | rfl
  · cases e4
  · cases e4
  · exact fin .none .non _ rfl .non (Same.refl _) q
  · exact fin .none .non _ rfl .non (Same.refl _) q
  · cases e4
  · cases e4
  · cases e4
  · exact fin (err "BadPlace" (.tuple [.int (-1)])) v7 _ rfl h7 (s6.trans (s7.trans (s8.trans (s9.trans s10)))) q
  · exact fin (err "BadPlace" (.tuple [.int (-1)])) v8 _ rfl h8 (s7.trans (s8.trans (s9.trans s10))) q
  · exact fin (err "TooMany" (.int 9)) v9 _ rfl h9 (s8.trans (s9.trans s10)) q
  · exact fin (err "BadProgram" (.tuple [])) v10 _ rfl h10 (s9.trans s10) q
  · exact fin (err "BadProgram" (.tuple [])) v11 _ rfl h11 s10 q
  · exact fin (err "BadTable" (.int 0)) v12 _ rfl h12 (Same.refl _) q

end
end An
namespace An
open PySem PySem.Spec PyProof.Rows L2
local macro_rules | `(tactic| walk_at "rd") => `(tactic| simp only [tSeq, tIfS, tRet, tRetN, tAndV, tOrV, tNotV, tCB, tCons, tVar, tC, tNil, rIsD, L2.start, tAnd, tOr, tNot, tB, tTest, tOp, tIf, tChain, tAsg, gName, gNil, gCons, tDrop, tCall, tNext, tFld, sFld, tRaiseR, tMkR, tSl, tPart, tNoPart, tBM, iTup, iList, iEnumT, tYes, tNever, cxOf, wipe, tPar, tPar3, tTup_eq, tLst_eq, rEq_str, rEq_int, rEq_bl, rNe_str, rNe_int, rI0_int, decide_eq_true_eq, Bool.not_eq_true',
  List.map_cons, List.map_nil, List.cons_append, List.nil_append, List.append_nil, List.getElem?_cons_zero, List.getElem?_cons_succ, Option.some.injEq, exists_eq_left', exists_eq_left, List.cons.injEq, and_true, true_and, List.set_cons_zero, List.set_cons_succ, V.bl.injEq, V.int.injEq, V.str.injEq, V.ref.injEq, V.ty.injEq, List.replicate, List.length_cons, List.length_nil, Nat.zero_add, Nat.reduceAdd, Nat.reduceSub, ite_true, ite_false, Bool.false_eq_true, if_false, if_true])
section
variable {P : Program} {w : World} {K : PySem.W.Frag} {mg : Str → Option Value} {base : Heap}

local macro_rules | `(tactic| walk_at "ev") => `(tactic| repeat' first
  | exact evs_nil
  | refine evs_cons ?_ ?_
  | exact ev_int
  | exact ev_str
  | exact ev_bl
  | exact ev_non
  | exact ev_neg
  | exact ev_var rfl (by assumption)
  | refine ev_tup ?_ (by first | decide | simp)
  | refine ev_rep ?_ (by simp) (by decide) (by decide) (by decide))
def errs3 : List Str := ["BadThing", "BadWord", "TooMany"]
theorem ok0 : okD (.tuple []) := ⟨by decide +kernel, by decide +kernel⟩
theorem errs3_7 : ∀ c ∈ errs3, c ∈ errs7 := by decide
def fineT : PyData := .tuple [.tuple [zeros 17], .tuple [.bool false]]
def lastE (z : Str) : Str × PyData := if z = "thing" then ("BadThing", .int 0) else if z = "word" then ("BadWord", .str "xor") else if z = "book" then ("TooMany", .int 9) else ("BadThing", .int 0)
theorem okF : okD fineT := ⟨by decide +kernel, by decide +kernel⟩
theorem joinF : joinZ fineT fineT "xor" = .er "BadWord" (.str "xor") := by kernel_rfl
theorem pairF : pairZ (.tuple []) 0 = .er "BadThing" (.int 0) := by kernel_rfl
theorem bookF : andR (wantPR (.tuple [])) (.er "TooMany" (.int 9)) = .er "TooMany" (.int 9) := by kernel_rfl
def spLast (K : PySem.W.Frag) : Sp := fun vs H Q _ => ∃ z x y td, vs = [.str z, x, y] ∧ Dp K H x fineT ∧ Dp K H y td ∧ QD K H (.tuple [.str (lastE z).1, (lastE z).2]) Q
def tbLast (K : PySem.W.Frag) : WX → TS := fun W => tIfS (tTest (tOp rEq (tVar 0) (tC (.str "thing")))) (tDrop (tCall (spPair K) [] (WL 4 W) (tCons (tTup tNil) (tCons (tTup tNil) (tCons (tUn (rU fun i => .int (-i)) (tC (.int 1))) (tCons (tUn (rU fun i => .int (-i)) (tC (.int 1))) tNil))))))
  (tIfS (tTest (tOp rEq (tVar 0) (tC (.str "word")))) (tDrop (tCall (spJoin K) [] (WL 4 W) (tCons (tVar 1) (tCons (tVar 1) (tCons (tC (.str "xor")) tNil)))))
  (tIfS (tTest (tOp rEq (tVar 0) (tC (.str "book")))) (tDrop (tMake (He.ga K "Book") (spBookI K) [] (WL 4 W) (tCons (tTup tNil) (tCons (tOp (rCtD K) (tOp (rRepD K) (tTup (tCons (tVar 1) tNil)) (tC (.int 8))) (tTup (tCons (tVar 2) tNil))) tNil))))
  (tDrop (tCall (spSteps K) [] (WL 4 W) (tCons (tTup tNil) (tCons (tTup (tCons (tTup (tCons (tC (.int 0)) tNil)) (tCons (tC (.int 5)) (tCons (tC (.int 5)) tNil)))) tNil))))))
theorem H_law_last (T : Tx P K mg) (U : Tcl K mg) (V : Txe K) : Has P w K mg base 15 "_law_last" ["way", "fine", "table"] (spLast K) := by
  refine T.d_law_last.has sc_law_last (fun _ _ _ _ _ _ us hl => match us, hl with | [_, _, _], _ => rfl) (fun vs H Q E h => by obtain ⟨_, _, _, _, rfl, _⟩ := h; rfl) (fun f cdv A outer s H vs Q E hr h => ⟨?t, ?b, ?rd⟩)
  case b =>
    refine' (pss_cons (ps_try_manyAs (i := 3) (n := "e") (tb := tbLast K) (Wout := fun cls d _ H => E cls d H)
      (l := errs3.map fun c' => ((Value.ref (He.ga K c')), tsE K 3 c')) rfl rfl sc_law_last.nd rfl rfl (takes_of rfl rfl rfl rfl)
      (fun W pn xe tk _ => pss_one (ps_if (pt_cmpR op_eq (pv 0) pe_str (nomark _)) (pss_one (ps_expr (pe_callQ (H_pair_word T U) (hr.mono (by omega)) (passTry rfl tk) (pa_cons (pe_tup pa_nil) (pa_cons (pe_tup pa_nil) (pa_cons (pe_un un_neg pe_int) (pa_cons (pe_un un_neg pe_int) pa_nil))))))) (pss_one (ps_if (pt_cmpR op_eq (pv 0) pe_str (nomark _)) (pss_one (ps_expr (pe_callQ (H_joined T U) (hr.mono (by omega)) (passTry rfl tk) (pa_cons (pv 1) (pa_cons (pv 1) (pa_cons pe_str pa_nil)))))) (pss_one (ps_if (pt_cmpR op_eq (pv 0) pe_str (nomark _)) (pss_one (ps_expr (pe_makeH (I_Book T U) (hr.mono (by omega)) (passTry rfl tk) (pa_cons (pe_tup pa_nil) (pa_cons (pe_op (op_catD (K := K)) (pe_op (op_repD (K := K)) (pe_tup (pa_cons (pv 1) pa_nil)) pe_int) (pe_tup (pa_cons (pv 2) pa_nil))) pa_nil))))) (pss_one (ps_expr (pe_callQ (H_steps_of T) (hr.mono (by omega)) (passTry rfl tk) (pa_cons (pe_tup pa_nil) (pa_cons (pe_tup (pa_cons (pe_tup (pa_cons pe_int pa_nil)) (pa_cons pe_int (pa_cons pe_int pa_nil)))) pa_nil))))))))))) ?c1)
  (pss_one (ps_ret pe_non)))
    case c1 => exact (.cons ⟨rfl, by decide, .inl T.g_BadThing⟩ (fun a oe cls d pn hz hf => pss_one (ps_ret (pe_tup (pa_cons pe_str (pa_cons (pe_xf (V.xf "BadThing" (by decide)) (V.nw "BadThing" (by decide)) hz hf (pv 3)) pa_nil))))) (.cons ⟨rfl, by decide, .inl T.g_BadWord⟩ (fun a oe cls d pn hz hf => pss_one (ps_ret (pe_tup (pa_cons pe_str (pa_cons (pe_xf (V.xf "BadWord" (by decide)) (V.nw "BadWord" (by decide)) hz hf (pv 3)) pa_nil))))) (.cons ⟨rfl, by decide, .inl T.g_TooMany⟩ (fun a oe cls d pn hz hf => pss_one (ps_ret (pe_tup (pa_cons pe_str (pa_cons (pe_xf (V.xf "TooMany" (by decide)) (V.nw "TooMany" (by decide)) hz hf (pv 3)) pa_nil))))) .nil)))
  case rd =>
    obtain ⟨z, x, y, td, rfl, hx, hy, q⟩ := h
    have er : ∀ (c : Str) (wh : PyData), c ∈ errs3 → lastE z = (c, wh) → ∀ (D : Ends), D.rt = Q → EndD K H Q (WL 4 (wManyAs K 3 (fun cls d _ H => E cls d H) D (errs3.map fun c' => ((Value.ref (He.ga K c')), tsE K 3 c')))) (.er c wh) := fun c wh hc e D eD H' v dx s1 hv hx σ hσ => by
      rw [e] at q
      refine many_errs V (errs3_7 c hc) hx hv ?_ errs3 (fun c2 h2 => errs3_7 c2 h2) hc σ (by rw [hσ]; decide)
      rw [eD]
      exact q.mv s1
    unfold tbLast
    walk_at "rd"
    by_cases e1 : z = "thing"
    · rw [if_pos e1]
      refine mkT_D (K := K) .nil (by decide) fun H1 t1 s1 h1 => mkT_D (K := K) .nil (by decide) fun H2 t2 s2 h2 => ?_
      refine ⟨1, rfl, 1, rfl, t1, t2, .tuple [], [], rfl, h1.mv s2, rfl, ok0, h2, .inr ⟨rfl, rfl⟩, ?_⟩
      rw [List.length_nil, pairF]
      exact EndD.mv (endEr rfl (er "BadThing" (.int 0) (by decide) (by unfold lastE; rw [if_pos e1]) _ rfl)) (s1.trans s2)
    rw [if_neg e1]
    by_cases e2 : z = "word"
    · rw [if_pos e2]
      refine ⟨x, x, fineT, fineT, "xor", rfl, hx, okF, hx, okF, by decide, by decide, by decide, ?_⟩
      rw [joinF]
      exact endEr rfl (er "BadWord" (.str "xor") (by decide) (by unfold lastE; rw [if_neg e1, if_pos e2]) _ rfl)
    rw [if_neg e2]
    by_cases e3 : z = "book"
    · rw [if_pos e3]
      unfold tMake
      walk_at "rd"
      refine mkT_D (K := K) .nil (by decide) fun H1 t1 s1 h1 => mkT_D (K := K) (.cons (hx.mv s1) .nil) (by simp) fun H2 t2 s2 h2 => ⟨[fineT], 8, rfl, h2, by simp, by decide, by decide, by simp, fun H3 v3 s3 h3 => ?_⟩
      refine mkT_D (K := K) (.cons (hy.mv (s1.trans (s2.trans s3))) .nil) (by simp) fun H4 t4 s4 h4 => ⟨_, _, h3.mv s4, h4, (by show 9 ≤ 1000; decide), fun H5 v5 s5 h5 => ?_⟩
      intro b db hb hdb hne
      have s6 : Same H5 (upd (upd H5 db (.own b)) b (.ins (He.ga K "Book") db [])) := fun a u ha => by
        rw [upd_ne (ne_of_none ha hb), upd_ne (ne_of_none ha hdb)]
        exact ha
      have s26 := s2.trans (s3.trans (s4.trans (s5.trans s6)))
      refine ⟨_, t1, v5, .tuple [], _, rfl, h1.mv s26, rfl, ok0, h5.mv s6, (by show 8 < 9; decide), ?_⟩
      have el : ((List.replicate (Int.toNat 8) [fineT]).flatten ++ [td]).length = 9 := by
        rw [List.length_append]
        rfl
      rw [el]
      rw [show (((9 : Nat) : Int)) = 9 from rfl, bookF]
      exact EndD.mv (endEr rfl (er "TooMany" (.int 9) (by decide) (by unfold lastE; rw [if_neg e1, if_neg e2, if_pos e3]) _ rfl)) (s1.trans s26)
    rw [if_neg e3]
    refine mkT_D (K := K) .nil (by decide) fun H1 t1 s1 h1 => mkT_D (K := K) (.cons (.int 0) .nil) (by decide) fun H2 t2 s2 h2 => mkT_D (K := K) (.cons h2 (.cons (.int 5) (.cons (.int 5) .nil))) (by decide) fun H3 t3 s3 h3 => ?_
    refine ⟨t1, t3, .tuple [], 0, rfl, h1.mv (s2.trans s3), rfl, ok0, h3, .inl rfl, ?_⟩
    refine (show EndD K H3 _ _ (.er "BadThing" (.int 0)) from ?_)
    exact EndD.mv (endEr rfl (er "BadThing" (.int 0) (by decide) (by unfold lastE; rw [if_neg e1, if_neg e2, if_neg e3]) _ rfl)) (s1.trans (s2.trans s3))

end
end An
namespace An
open PySem PySem.Spec PyProof.Rows L2
local macro_rules | `(tactic| walk_at "rd") => `(tactic| simp only [tSeq, tIfS, tRet, tRetN, tAndV, tOrV, tNotV, tCB, tCons, tVar, tC, tNil, rIsD, L2.start, tAnd, tOr, tNot, tB, tTest, tOp, tIf, tChain, tAsg, gName, gNil, gCons, tDrop, tCall, tNext, tFld, sFld, tRaiseR, tMkR, tSl, tPart, tNoPart, tBM, iTup, iList, iEnumT, tYes, tNever, cxOf, wipe, tPar, tPar3, tTup_eq, tLst_eq, rEq_str, rEq_int, rEq_bl, rNe_str, rNe_int, rI0_int, decide_eq_true_eq, Bool.not_eq_true',
  List.map_cons, List.map_nil, List.cons_append, List.nil_append, List.append_nil, List.getElem?_cons_zero, List.getElem?_cons_succ, Option.some.injEq, exists_eq_left', exists_eq_left, List.cons.injEq, and_true, true_and, List.set_cons_zero, List.set_cons_succ, V.bl.injEq, V.int.injEq, V.str.injEq, V.ref.injEq, V.ty.injEq, List.replicate, List.length_cons, List.length_nil, Nat.zero_add, Nat.reduceAdd, Nat.reduceSub, ite_true, ite_false, Bool.false_eq_true, if_false, if_true])
section
variable {P : Program} {w : World} {K : PySem.W.Frag} {mg : Str → Option Value} {base : Heap}

local macro_rules | `(tactic| walk_at "ev") => `(tactic| repeat' first
  | exact evs_nil
  | refine evs_cons ?_ ?_
  | exact ev_int
  | exact ev_str
  | exact ev_bl
  | exact ev_non
  | exact ev_neg
  | exact ev_var rfl (by assumption)
  | refine ev_tup ?_ (by first | decide | simp)
  | refine ev_rep ?_ (by simp) (by decide) (by decide) (by decide))
/-! what is asked and what is due -/
def fine0 : PyData := .tuple [.tuple [], .none]
def fine1 : PyData := .tuple [fineT, .none]
def fine2 : PyData := .tuple [.tuple [.tuple [.str "stop"]], .none]
def OkE (e : PyData) : Prop := PyData.eqv e e = true ∧ SeqAt.shaped e = true
/-- z goes well and e is None, or e tells z's error -/
def Good (z : Rz) (e : PyData) : Prop := (e = .none ∧ ∃ r, z = .ok r) ∨ ∃ c wh, e = err c wh ∧ z = .er c wh ∧ c ∈ errs7 ∧ OkE (err c wh)
def GoodP (pr : PyData) : Prop := ∃ pp pe, pr = .tuple [pp, pe] ∧ Good (wantPR pp) pe ∧ noL pp = true ∧ okD pp ∧ (pp = .tuple [] ∨ ∃ e, wantP pp = .error e)
def GoodT (tb : PyData) : Prop := ∃ tp te, tb = .tuple [tp, te] ∧ Good (wantT tp) te ∧ okD tp
def GoodK (cd : PyData) : Prop := ∃ cl ce, cd = .tuple [.tuple cl, ce] ∧ Good (wantK cl) ce ∧ okD (.tuple cl)
def isT (d : PyData) : Bool := match d with
  | .tuple [_, e] => !isNn e
  | _ => false
theorem goodP (pr : PyData) (h : pr ∈ progs) : GoodP pr := by
  simp only [progs, List.mem_cons, List.not_mem_nil, or_false] at h
  rcases h with rfl | rfl | rfl | rfl
  · exact ⟨_, _, rfl, .inr ⟨_, _, rfl, by kernel_rfl, by decide, by decide +kernel, by decide +kernel⟩, by decide +kernel, ⟨by decide +kernel, by decide +kernel⟩, .inr ⟨_, rfl⟩⟩
  · exact ⟨_, _, rfl, .inr ⟨_, _, rfl, by kernel_rfl, by decide, by decide +kernel, by decide +kernel⟩, by decide +kernel, ⟨by decide +kernel, by decide +kernel⟩, .inr ⟨("BadProgram", .tuple [.int 1]), by kernel_rfl⟩⟩
  · exact ⟨_, _, rfl, .inr ⟨_, _, rfl, by kernel_rfl, by decide, by decide +kernel, by decide +kernel⟩, by decide +kernel, ⟨by decide +kernel, by decide +kernel⟩, .inr ⟨("TooMany", .int 41), by kernel_rfl⟩⟩
  · exact ⟨_, _, rfl, .inr ⟨_, _, rfl, by kernel_rfl, by decide, by decide +kernel, by decide +kernel⟩, by decide +kernel, ⟨by decide +kernel, by decide +kernel⟩, .inr ⟨("TooMany", .int 7), by kernel_rfl⟩⟩
theorem goodP0 : GoodP fine0 := ⟨_, _, rfl, .inl ⟨rfl, .none, by kernel_rfl⟩, by decide +kernel, ⟨by decide +kernel, by decide +kernel⟩, .inl rfl⟩
theorem goodT (tb : PyData) (h : tb ∈ tabs) : GoodT tb := by
  simp only [tabs, List.mem_cons, List.not_mem_nil, or_false] at h
  rcases h with rfl | rfl | rfl | rfl
  all_goals exact ⟨_, _, rfl, .inr ⟨_, _, rfl, by kernel_rfl, by decide, by decide +kernel, by decide +kernel⟩, ⟨by decide +kernel, by decide +kernel⟩⟩
theorem goodT0 : GoodT fine1 := ⟨_, _, rfl, .inl ⟨rfl, .none, by kernel_rfl⟩, okF⟩
theorem goodK (cd : PyData) (h : cd ∈ codes) : GoodK cd := by
  simp only [codes, List.mem_cons, List.not_mem_nil, or_false] at h
  rcases h with rfl | rfl | rfl | rfl
  all_goals exact ⟨_, _, rfl, .inr ⟨_, _, rfl, by kernel_rfl, by decide, by decide +kernel, by decide +kernel⟩, ⟨by decide +kernel, by decide +kernel⟩⟩
theorem goodK0 : GoodK fine2 := ⟨_, _, rfl, .inl ⟨rfl, .none, by kernel_rfl⟩, ⟨by decide +kernel, by decide +kernel⟩⟩
theorem isT_p : ∀ pr ∈ progs, isT pr = true := by decide +kernel
theorem isT_t : ∀ pr ∈ tabs, isT pr = true := by decide +kernel
theorem isT_k : ∀ pr ∈ codes, isT pr = true := by decide +kernel
theorem okE1 {c : Str} {wh : PyData} (h : wh = .int 3001 ∨ wh = .int 9 ∨ wh = .int 0 ∨ wh = .tuple [] ∨ wh = .tuple [.int (-1)]) (hc : c = "TooMany" ∨ c = "BadPlace" ∨ c = "BadProgram" ∨ c = "BadTable") : OkE (err c wh) := by
  rcases h with rfl | rfl | rfl | rfl | rfl <;> rcases hc with rfl | rfl | rfl | rfl <;> exact ⟨by decide +kernel, by decide +kernel⟩
theorem asked_due {w : Nat} {pp pe tp te ce : PyData} {cl : List PyData} (hw : w ≤ 12) (gp : Good (wantPR pp) pe) (gt : Good (wantT tp) te) (gk : Good (wantK cl) ce) (a1 : pe ≠ .none ∨ te ≠ .none) (a2 : ce ≠ .none ∨ te ≠ .none) :
    ∃ c wh, askedZ w pp tp cl = .er c wh ∧ c ∈ errs7 ∧ dueD w pe te ce = err c wh ∧ OkE (err c wh) := by
  have gP : ∀ z, Good (wantPR pp) pe → (pe = .none ∧ andR (wantPR pp) z = z) ∨ ∃ c wh, pe = err c wh ∧ andR (wantPR pp) z = .er c wh ∧ c ∈ errs7 ∧ OkE (err c wh) := fun z g => by
    rcases g with ⟨h, r, e⟩ | ⟨c, wh, h, e, hc, ho⟩
    · exact .inl ⟨h, by rw [e]; rfl⟩
    · exact .inr ⟨c, wh, h, by rw [e]; rfl, hc, ho⟩
  have gK : ∀ z, Good (wantK cl) ce → (ce = .none ∧ andR (wantK cl) z = z) ∨ ∃ c wh, ce = err c wh ∧ andR (wantK cl) z = .er c wh ∧ c ∈ errs7 ∧ OkE (err c wh) := fun z g => by
    rcases g with ⟨h, r, e⟩ | ⟨c, wh, h, e, hc, ho⟩
    · exact .inl ⟨h, by rw [e]; rfl⟩
    · exact .inr ⟨c, wh, h, by rw [e]; rfl, hc, ho⟩
  have hw' : w = 0 ∨ w = 1 ∨ w = 2 ∨ w = 3 ∨ w = 4 ∨ w = 5 ∨ w = 6 ∨ w = 7 ∨ w = 8 ∨ w = 9 ∨ w = 10 ∨ w = 11 ∨ w = 12 := by omega
  rcases hw' with rfl | rfl | rfl | rfl | rfl | rfl | rfl | rfl | rfl | rfl | rfl | rfl | rfl
  · rcases gP (wantC 3001) gp with ⟨rfl, e⟩ | ⟨c, wh, rfl, e, hc, ho⟩
    · exact ⟨"TooMany", .int 3001, e, by decide, rfl, okE1 (.inl rfl) (.inl rfl)⟩
    · exact ⟨c, wh, e, hc, rfl, ho⟩
  · rcases gP (wantC 3001) gp with ⟨rfl, e⟩ | ⟨c, wh, rfl, e, hc, ho⟩
    · refine ⟨"TooMany", .int 3001, ?_, by decide, rfl, okE1 (.inl rfl) (.inl rfl)⟩
      show pairZ pp 3001 = _
      unfold pairZ
      rw [e]
      rfl
    · refine ⟨c, wh, ?_, hc, rfl, ho⟩
      show pairZ pp 3001 = _
      unfold pairZ
      rw [e]
  · rcases gP (wantT tp) gp with ⟨rfl, e⟩ | ⟨c, wh, rfl, e, hc, ho⟩
    · rcases gt with ⟨h, _⟩ | ⟨c, wh, rfl, e2, hc, ho⟩
      · exact absurd h (a1.resolve_left (fun z => z rfl))
      · exact ⟨c, wh, e.trans e2, hc, rfl, ho⟩
    · exact ⟨c, wh, e, hc, rfl, ho⟩
  · rcases gP (wantT tp) gp with ⟨rfl, e⟩ | ⟨c, wh, rfl, e, hc, ho⟩
    · rcases gt with ⟨h, _⟩ | ⟨c, wh, rfl, e2, hc, ho⟩
      · exact absurd h (a1.resolve_left (fun z => z rfl))
      · exact ⟨c, wh, e.trans e2, hc, rfl, ho⟩
    · exact ⟨c, wh, e, hc, rfl, ho⟩
  · rcases gP (wantT tp) gp with ⟨rfl, e⟩ | ⟨c, wh, rfl, e, hc, ho⟩
    · rcases gt with ⟨h, _⟩ | ⟨c, wh, rfl, e2, hc, ho⟩
      · exact absurd h (a1.resolve_left (fun z => z rfl))
      · exact ⟨c, wh, e.trans e2, hc, rfl, ho⟩
    · exact ⟨c, wh, e, hc, rfl, ho⟩
  · rcases gK (wantT tp) gk with ⟨rfl, e⟩ | ⟨c, wh, rfl, e, hc, ho⟩
    · rcases gt with ⟨h, _⟩ | ⟨c, wh, rfl, e2, hc, ho⟩
      · exact absurd h (a2.resolve_left (fun z => z rfl))
      · exact ⟨c, wh, e.trans e2, hc, rfl, ho⟩
    · exact ⟨c, wh, e, hc, rfl, ho⟩
  · rcases gK (wantC 3001) gk with ⟨rfl, e⟩ | ⟨c, wh, rfl, e, hc, ho⟩
    · exact ⟨"TooMany", .int 3001, e, by decide, rfl, okE1 (.inl rfl) (.inl rfl)⟩
    · exact ⟨c, wh, e, hc, rfl, ho⟩
  · have m : ∀ z, (match wantP pp with | .error e => Rz.er e.1 e.2 | .ok _ => z) = andR (wantPR pp) z := fun z => by
      unfold wantPR
      cases wantP pp <;> rfl
    rcases gP (wantS [.tuple [.int 0]] (-1)) gp with ⟨rfl, e⟩ | ⟨c, wh, rfl, e, hc, ho⟩
    · refine ⟨"BadPlace", .tuple [.int (-1)], ?_, by decide, rfl, okE1 (.inr (.inr (.inr (.inr rfl)))) (.inr (.inl rfl))⟩
      refine Eq.trans ?_ ((m _).trans e)
      unfold askedZ
      cases wantP pp <;> rfl
    · refine ⟨c, wh, ?_, hc, rfl, ho⟩
      refine Eq.trans ?_ ((m _).trans e)
      unfold askedZ
      cases wantP pp <;> rfl
  · have m : ∀ z, (match wantP pp with | .error e => Rz.er e.1 e.2 | .ok _ => z) = andR (wantPR pp) z := fun z => by
      unfold wantPR
      cases wantP pp <;> rfl
    rcases gP (Rz.er "BadPlace" (.tuple [.int (-1)])) gp with ⟨rfl, e⟩ | ⟨c, wh, rfl, e, hc, ho⟩
    · refine ⟨"BadPlace", .tuple [.int (-1)], ?_, by decide, rfl, okE1 (.inr (.inr (.inr (.inr rfl)))) (.inr (.inl rfl))⟩
      refine Eq.trans ?_ ((m _).trans e)
      unfold askedZ
      cases wantP pp <;> rfl
    · refine ⟨c, wh, ?_, hc, rfl, ho⟩
      refine Eq.trans ?_ ((m _).trans e)
      unfold askedZ
      cases wantP pp <;> rfl
  · rcases gP (.er "TooMany" (.int 9)) gp with ⟨rfl, e⟩ | ⟨c, wh, rfl, e, hc, ho⟩
    · exact ⟨"TooMany", .int 9, e, by decide, rfl, okE1 (.inr (.inl rfl)) (.inl rfl)⟩
    · exact ⟨c, wh, e, hc, rfl, ho⟩
  · rcases gP (wantPR (.int 7)) gp with ⟨rfl, e⟩ | ⟨c, wh, rfl, e, hc, ho⟩
    · exact ⟨"BadProgram", .tuple [], e, by decide, rfl, okE1 (.inr (.inr (.inr (.inl rfl)))) (.inr (.inr (.inl rfl)))⟩
    · exact ⟨c, wh, e, hc, rfl, ho⟩
  · rcases gP (wantPR (.int 7)) gp with ⟨rfl, e⟩ | ⟨c, wh, rfl, e, hc, ho⟩
    · exact ⟨"BadProgram", .tuple [], e, by decide, rfl, okE1 (.inr (.inr (.inr (.inl rfl)))) (.inr (.inr (.inl rfl)))⟩
    · exact ⟨c, wh, e, hc, rfl, ho⟩
  · rcases gt with ⟨rfl, r, e⟩ | ⟨c, wh, rfl, e, hc, ho⟩
    · refine ⟨"BadTable", .int 0, ?_, by decide, rfl, okE1 (.inr (.inr (.inl rfl))) (.inr (.inr (.inr rfl)))⟩
      show joinZ tp (.int 5) "xor" = _
      unfold joinZ
      rw [e]
      rfl
    · refine ⟨c, wh, ?_, hc, rfl, ho⟩
      show joinZ tp (.int 5) "xor" = _
      unfold joinZ
      rw [e]
      rfl

end
end An
namespace An
open PySem PySem.Spec PyProof.Rows L2
local macro_rules | `(tactic| walk_at "rd") => `(tactic| simp only [tSeq, tIfS, tRet, tRetN, tAndV, tOrV, tNotV, tCB, tCons, tVar, tC, tNil, rIsD, L2.start, tAnd, tOr, tNot, tB, tTest, tOp, tIf, tChain, tAsg, gName, gNil, gCons, tDrop, tCall, tNext, tFld, sFld, tRaiseR, tMkR, tSl, tPart, tNoPart, tBM, iTup, iList, iEnumT, tYes, tNever, cxOf, wipe, tPar, tPar3, tTup_eq, tLst_eq, rEq_str, rEq_int, rEq_bl, rNe_str, rNe_int, rI0_int, decide_eq_true_eq, Bool.not_eq_true',
  List.map_cons, List.map_nil, List.cons_append, List.nil_append, List.append_nil, List.getElem?_cons_zero, List.getElem?_cons_succ, Option.some.injEq, exists_eq_left', exists_eq_left, List.cons.injEq, and_true, true_and, List.set_cons_zero, List.set_cons_succ, V.bl.injEq, V.int.injEq, V.str.injEq, V.ref.injEq, V.ty.injEq, List.replicate, List.length_cons, List.length_nil, Nat.zero_add, Nat.reduceAdd, Nat.reduceSub, ite_true, ite_false, Bool.false_eq_true, if_false, if_true])
section
variable {P : Program} {w : World} {K : PySem.W.Frag} {mg : Str → Option Value} {base : Heap}

theorem st_forL {tl : TA} {g : TG} {body u : TS} {D : Ends} {σ : L2.St} {H : Hp} {ds : List PyData} (ev : EvsS K tl σ H ds) (z : ds.length ≤ 1000) (R : Nat → L2.St → Prop) (h0 : R 0 σ)
    (hs : ∀ (i : Nat) d x σ' H', ds[i]? = some d → Same H H' → R i σ' → Dp K H' x d → ∀ N : L2.St → Hp → Prop, (∀ σ3 H3, Same H' H3 → R (i + 1) σ3 → N σ3 H3) → g x σ' H' fun σ2 H2 => body { D with nx := N, ct := N, bk := u D } σ2 H2)
    (hd : ∀ σ' H', Same H H' → R ds.length σ' → u D σ' H') : tSeq (tFor (iList K (tLst tl)) g body) u D σ H := by
  refine ev H (Same.refl H) _ fun H1 vs s1 hvs => ⟨by rw [hvs.length]; exact Nat.le_of_lt (small1000 z), fun p hp => ?_⟩
  have s2 : Same H1 (upd H1 p (.lst vs)) := Same.new hp
  have hS : SqL K (upd H1 p (.lst vs)) p vs := .inl (.inl upd_same)
  have hvs2 := hvs.mv s2
  generalize upd H1 p (.lst vs) = H2 at *
  refine ⟨p, rfl, ⟨_, hS⟩, for_it (D := { D with nx := u D }) (walk_list (K := K) (a := p) (xs := vs)) (fun i σ' H' => Same H2 H' ∧ R i σ') ⟨Same.refl _, h0⟩ (fun i σ' H' _ q => q.1.seq hS) ?_ ?_⟩
  · rintro i x σ' H' H3 hi ⟨s3, r⟩ ⟨rfl, hu⟩
    obtain ⟨d, hd, hx⟩ := hvs2.get' hu
    exact hs i d x σ' _ hd (s1.trans (s2.trans s3)) r (hx.mv s3) _ fun σ3 H4 s4 r' => ⟨s3.trans s4, r'⟩
  · rintro σ' H' ⟨s3, r⟩
    rw [hvs2.length] at r
    exact hd σ' H' (s1.trans (s2.trans s3)) r
local macro_rules | `(tactic| walk_at "ev") => `(tactic| repeat' first
  | exact evs_nil
  | refine evs_cons ?_ ?_
  | exact ev_int
  | exact ev_str
  | exact ev_bl
  | exact ev_non
  | exact ev_neg
  | exact ev_var rfl (by assumption)
  | refine ev_tup ?_ (by first | decide | simp)
  | refine ev_rep ?_ (by simp) (by decide) (by decide) (by decide))
def lastsD : List PyData := [.tuple [.str "thing", err "BadThing" (.int 0)], .tuple [.str "word", err "BadWord" (.str "xor")], .tuple [.str "book", err "TooMany" (.int 9)], .tuple [.str "state", err "BadThing" (.int 0)]]
theorem lasts_ok : ∀ d ∈ lastsD, ∃ z, d = .tuple [.str z, err (lastE z).1 (lastE z).2] ∧ OkE (err (lastE z).1 (lastE z).2) := by
  intro d h
  simp only [lastsD, List.mem_cons, List.not_mem_nil, or_false] at h
  rcases h with rfl | rfl | rfl | rfl
  · exact ⟨"thing", rfl, by decide +kernel, by decide +kernel⟩
  · exact ⟨"word", rfl, by decide +kernel, by decide +kernel⟩
  · exact ⟨"book", rfl, by decide +kernel, by decide +kernel⟩
  · exact ⟨"state", rfl, by decide +kernel, by decide +kernel⟩
def spSingle (K : PySem.W.Frag) : Sp := fun vs H Q _ => ∃ x td, vs = [x] ∧ Dp K H x td ∧ ∀ H', Q (.bl true) H'
theorem H_law_single_right (T : Tx P K mg) (U : Tcl K mg) (V : Txe K) : Has P w K mg base 16 "_law_single_right" ["table"] (spSingle K) := by
  refine T.d_law_single_right.has sc_law_single_right (fun _ _ _ _ _ _ us hl => match us, hl with | [_], _ => rfl) (fun vs H Q E h => by obtain ⟨_, _, rfl, _⟩ := h; rfl) (fun f cdv A outer s H vs Q E hr h => ⟨?t, ?b, ?rd⟩)
  case b =>
    refine' (pss_cons (ps_set (i := 1) sc_law_single_right.nd rfl (Or.inl rfl) (pe_tup (pa_cons (pe_tup (pa_cons (pe_op (op_repD (K := K)) (pe_tup (pa_cons pe_int pa_nil)) pe_int) pa_nil)) (pa_cons (pe_tup (pa_cons pe_bl pa_nil)) pa_nil))))
  (pss_cons (ps_for (passes_of rfl) rfl (pi_list (pe_lst (pa_cons (pe_tup (pa_cons pe_str (pa_cons (pe_tup (pa_cons pe_str (pa_cons pe_int pa_nil))) pa_nil))) (pa_cons (pe_tup (pa_cons pe_str (pa_cons (pe_tup (pa_cons pe_str (pa_cons pe_str pa_nil))) pa_nil))) (pa_cons (pe_tup (pa_cons pe_str (pa_cons (pe_tup (pa_cons pe_str (pa_cons pe_int pa_nil))) pa_nil))) (pa_cons (pe_tup (pa_cons pe_str (pa_cons (pe_tup (pa_cons pe_str (pa_cons pe_int pa_nil))) pa_nil))) pa_nil)))))) (pg_tup (by rfl) (pgs_cons (pg_name (i := 2) sc_law_single_right.nd rfl (Or.inl rfl)) (pgs_cons (pg_name (i := 3) sc_law_single_right.nd rfl (Or.inl rfl)) pgs_nil))) (pss_one (ps_if (pt_cmpR (op_neK (K := K) hr.units) (pe_callQ (H_law_last T U V) (hr.mono (by omega)) pasX (pa_cons (pv 2) (pa_cons (pv 1) (pa_cons (pv 0) pa_nil)))) (pv 3) (nomark _)) (pss_one (ps_ret pe_bl)) pss_nil)))
  (pss_one (ps_ret pe_bl))))
  case rd =>
    obtain ⟨x, td, rfl, hx, q⟩ := h
    refine seq_ev (K := K) (i := 1) (d := fineT) (by walk_at "ev") fun H1 v1 s1 h1 => ?_
    refine st_forL (K := K) (ds := lastsD) (by walk_at "ev") (by decide) (fun _ σ => ∃ s2 s3, σ = [some x, some v1, s2, s3]) ⟨none, none, rfl⟩ ?_ (fun σ' H' _ _ => q _)
    rintro i d y σ' H2 hd s2 ⟨s3, s4, rfl⟩ hy N hN
    obtain ⟨z, rfl, ok⟩ := lasts_ok d (List.mem_of_getElem? hd)
    obtain ⟨p, ys, rfl, hS, hA⟩ := dp_tup hy
    cases hA with
    | cons g1 g2 =>
    cases g2 with
    | cons g3 g4 =>
    cases g4
    cases dp_str g1
    refine ⟨p, _, rfl, hS, rfl, ?_⟩
    walk_at "rd"
    refine ⟨_, _, ⟨rfl, rfl⟩, _, _, rfl, rfl, ?_⟩
    refine ⟨z, _, _, td, rfl, h1.mv s2, hx.mv (s1.trans s2), fun H3 v3 s3 hv3 => ⟨_, _, hv3, g3.mv s3, ok.2, ok.2, _, rfl, ?_⟩⟩
    have e : PyData.eqv (.tuple [.str (lastE z).1, (lastE z).2]) (err (lastE z).1 (lastE z).2) = true := ok.1
    rw [e, if_neg (by decide)]
    exact hN _ _ s3 ⟨_, _, rfl⟩

end
end An
namespace An
open PySem PySem.Spec PyProof.Rows L2
local macro_rules | `(tactic| walk_at "rd") => `(tactic| simp only [tSeq, tIfS, tRet, tRetN, tAndV, tOrV, tNotV, tCB, tCons, tVar, tC, tNil, rIsD, L2.start, tAnd, tOr, tNot, tB, tTest, tOp, tIf, tChain, tAsg, gName, gNil, gCons, tDrop, tCall, tNext, tFld, sFld, tRaiseR, tMkR, tSl, tPart, tNoPart, tBM, iTup, iList, iEnumT, tYes, tNever, cxOf, wipe, tPar, tPar3, tTup_eq, tLst_eq, rEq_str, rEq_int, rEq_bl, rNe_str, rNe_int, rI0_int, decide_eq_true_eq, Bool.not_eq_true',
  List.map_cons, List.map_nil, List.cons_append, List.nil_append, List.append_nil, List.getElem?_cons_zero, List.getElem?_cons_succ, Option.some.injEq, exists_eq_left', exists_eq_left, List.cons.injEq, and_true, true_and, List.set_cons_zero, List.set_cons_succ, V.bl.injEq, V.int.injEq, V.str.injEq, V.ref.injEq, V.ty.injEq, List.replicate, List.length_cons, List.length_nil, Nat.zero_add, Nat.reduceAdd, Nat.reduceSub, ite_true, ite_false, Bool.false_eq_true, if_false, if_true])
section
variable {P : Program} {w : World} {K : PySem.W.Frag} {mg : Str → Option Value} {base : Heap}

local macro_rules | `(tactic| walk_at "ev") => `(tactic| repeat' first
  | exact evs_nil
  | refine evs_cons ?_ ?_
  | exact ev_int
  | exact ev_str
  | exact ev_bl
  | exact ev_non
  | exact ev_neg
  | exact ev_var rfl (by assumption)
  | refine ev_tup ?_ (by first | decide | simp)
  | refine ev_rep ?_ (by simp) (by decide) (by decide) (by decide))
theorem ev_ix {σ : L2.St} {H : Hp} {te : TE} {ds : List PyData} {d : PyData} {i : Int} (h : EvS K te σ H (.tuple ds)) (h0 : 0 ≤ i) (e : ds[i.toNat]? = some d) : EvS K (tOp (rIxDp K) te (tC (.int i))) σ H d := fun H' s Q q =>
  h H' s _ fun H2 v s2 hv => ⟨ds, i.toNat, d, by rw [show ((i.toNat : Nat) : Int) = i by omega], hv, e, fun v' hv' => q H2 v' s2 hv'⟩
theorem call_evs {σ : L2.St} {H : Hp} {sp : Sp} {E : XK} {ta : TA} {ds : List PyData} {Q : VK} (h : EvsS K ta σ H ds) (q : ∀ H' vs, Same H H' → DpAll K H' vs ds → sp vs H' Q E) : tCall sp [] E ta σ H Q := h H (Same.refl H) _ fun H2 vs s2 hvs => by
  rw [List.append_nil]
  exact q H2 vs s2 hvs
theorem one_callJ {σ : L2.St} {H : Hp} {l : Addr} {a b : Int} {tl : TA} {ds : List PyData} {E : XK} {Q : VK} {j : Nat} (h0 : σ[j]? = some (some (.ref l))) (hl : H l = some (.lst [.int a, .int b])) (ev : EvsS K tl σ H ds) (nl : noLs ds = true) (p : 0 < ds.length) (z : ds.length ≤ 1000)
    (q : ∀ H' v d a' b', SameB l H H' → H' l = some (.lst [.int a', .int b']) → d ∈ ds → Dp K H' v d → Q v H') : tCall (spOne K) [] E (tCons (tVar j) (tCons (tLst tl) tNil)) σ H Q := by
  refine ⟨_, h0, ev H (Same.refl H) _ fun H2 vs s2 hvs => ⟨by rw [hvs.length]; exact Nat.le_of_lt (small1000 z), fun t ht => ?_⟩⟩
  have hd : Dp K (upd H2 t (.lst vs)) (.ref t) (.list ds) := .lst (.inl (.inl upd_same)) (hvs.mv (Same.new ht))
  have s3 : Same H2 (upd H2 t (.lst vs)) := Same.new ht
  have hl2 := s2 _ _ hl
  exact ⟨l, t, ds, a, b, rfl, s3 _ _ hl2, fun z => by (rw [z, hl2] at ht; cases ht), hd, nl, p, z, fun H' v d a' b' s4 h1 h2 h3 => q H' v d a' b' ((SameB.of (s2.trans s3)).trans s4) h1 h2 h3⟩
theorem LC_range {n : Nat} {g : TG} {te : TE} {vs : List Nat} {σ : L2.St} {H : Hp} {Q : VK} (f : Nat → PyData) (hz : n ≤ 1000) (nl : ∀ i, i < n → noL (f i) = true)
    (hs : ∀ (i : Nat) H6 (C : VK), i < n → Same H H6 → (∀ y H4, Same H6 H4 → Dp K H4 y (f i) → C y H4) → g (.int (i : Int)) (wipe σ vs) H6 fun σ2 H2 => wipe σ2 vs = wipe σ vs ∧ te σ2 H2 C)
    (hd : ∀ H' p, Same H H' → H p = none → Dp K H' (.ref p) (.list ((List.range n).map f)) → Q (.ref p) H') : LC (Itr 0 n) g tYes te vs σ H Q := by
  intro D hD
  refine lcD (K := K) (walk_range (lo := 0) (n := n)) f hz hD nl (fun _ _ => True.intro) ?_ (fun H' s' hp => hd _ _ s' hD hp)
  rintro i u H5 H6 C hi s5 ⟨rfl, rfl⟩ k
  have e : (0 : Int) + (i : Int) = (i : Int) := by omega
  show g (.int (0 + (i : Int))) _ _ _
  rw [e]
  exact hs i _ C hi s5 k
theorem seq_lcR {n : Int} {g g2 : TG} {tt : TT} {te : TE} {vs : List Nat} {σ : L2.St} {H : Hp} {rest : TS} {D : Ends} (h1 : -(2 ^ 62) ≤ n) (h2 : n < 2 ^ 62) (h : LC (Itr 0 n.toNat) g tt te vs σ H fun v H' => g2 v σ H' (rest D)) :
    tSeq (tAsg (tLc (iRng1 (tCons (tC (.int n)) tNil)) g tt te vs) g2) rest D σ H := ⟨n, rfl, h1, h2, h⟩
theorem if_no {c : TT} {a : TS} {D : Ends} {σ : L2.St} {H : Hp} (hc : TrS K c σ H false) (q : ∀ H', Same H H' → D.nx σ H') : tIfS c a tNext D σ H := hc H (Same.refl H) _ fun H2 s2 => q H2 s2
theorem tr_nnv {σ : L2.St} {H : Hp} {i : Nat} {x : L2.V} {b : PyData} (h0 : σ[i]? = some (some x)) (hx : Dp K H x b) : TrS K (tTest (tOp (fun x y H Q => y = .non ∧ Q (.bl (!decide (x = .non))) H) (tVar i) (tC .non))) σ H (!isNn b) := by
  intro H' s Q q
  refine ⟨_, h0, rfl, _, rfl, ?_⟩
  rw [dp_isnon hx]
  exact q _ (Same.refl _)
/-- what is asked about: fine or wrong -/
def selD (r : Int) (pr tb cd : PyData) (i : Nat) : PyData := if r = (i : Int) ∨ (r = 3 ∧ (i : Int) ≠ 1) then [fine0, fine1, fine2].getD i .none else [pr, tb, cd].getD i .none
theorem sel_ok {r : Int} {pr tb cd : PyData} (h0 : 0 ≤ r) (h1 : r < 4) (hpr : pr ∈ progs) (htb : tb ∈ tabs) (hcd : cd ∈ codes) :
    GoodP (selD r pr tb cd 0) ∧ GoodT (selD r pr tb cd 1) ∧ GoodK (selD r pr tb cd 2) ∧ (isT (selD r pr tb cd 0) = true ∨ isT (selD r pr tb cd 1) = true) ∧ (isT (selD r pr tb cd 2) = true ∨ isT (selD r pr tb cd 1) = true) := by
  have h : r = 0 ∨ r = 1 ∨ r = 2 ∨ r = 3 := by omega
  rcases h with rfl | rfl | rfl | rfl
  · exact ⟨goodP0, goodT tb htb, goodK cd hcd, .inr (isT_t tb htb), .inr (isT_t tb htb)⟩
  · exact ⟨goodP pr hpr, goodT0, goodK cd hcd, .inl (isT_p pr hpr), .inl (isT_k cd hcd)⟩
  · exact ⟨goodP pr hpr, goodT tb htb, goodK0, .inr (isT_t tb htb), .inr (isT_t tb htb)⟩
  · exact ⟨goodP0, goodT tb htb, goodK0, .inr (isT_t tb htb), .inr (isT_t tb htb)⟩
theorem isT_ne {p e : PyData} (h : isT (.tuple [p, e]) = true) : e ≠ .none := fun z => by
  subst z
  cases h
theorem seq_asg {σ : L2.St} {H : Hp} {te : TE} {tb : TS} {D : Ends} {i : Nat} (h : te σ H fun v H' => tb D (σ.set i (some v)) H') : tSeq (tAsg te (gName i)) tb D σ H := h
def waysD : List Nat := [9, 4, 5, 0, 1, 2, 3, 6, 7, 8, 10, 11, 12, 4, 5]
def spLaw (K : PySem.W.Frag) : Sp := fun vs H Q _ => ∃ a, ∃ ns : List Int, vs = [.ref a] ∧ SqL K H a (ns.map V.int) ∧ ns.length ≤ 63 ∧ ∀ H', Q (.bl true) H'
theorem F_law (T : Tx P K mg) (U : Tcl K mg) (V : Txe K) {f : Addr} {fd : FuncData} (F : Fun K "law" "law" s_law f fd) : FnOk P w K mg base CX0 18 f fd ["script"] (spLaw K) := by
  refine F.ok sc_law (fun vs H Q E h => by obtain ⟨_, _, rfl, _⟩ := h; rfl) (fun cdv A outer s H vs Q E hr h => ⟨?t, ?b, ?rd⟩)
  case b =>
    refine' (pss_cons (ps_set (i := 1) sc_law.nd rfl (Or.inl rfl) (pe_callQ (H_law_pool T) (hr.mono (by omega)) passL (pa_cons (pv 0) (pa_cons pe_int pa_nil))))
  (pss_cons (ps_set (i := 2) sc_law.nd rfl (Or.inr rfl) (pe_callQ (H_law_wrong T) (hr.mono (by omega)) passL (pa_cons (pv 1) pa_nil)))
  (pss_cons (ps_set (i := 3) sc_law.nd rfl (Or.inr rfl) (pe_tup (pa_cons (pe_tup (pa_cons (pe_tup pa_nil) (pa_cons pe_non pa_nil))) (pa_cons (pe_tup (pa_cons (pe_tup (pa_cons (pe_tup (pa_cons (pe_op (op_repD (K := K)) (pe_tup (pa_cons pe_int pa_nil)) pe_int) pa_nil)) (pa_cons (pe_tup (pa_cons pe_bl pa_nil)) pa_nil))) (pa_cons pe_non pa_nil))) (pa_cons (pe_tup (pa_cons (pe_tup (pa_cons (pe_tup (pa_cons pe_str pa_nil)) pa_nil)) (pa_cons pe_non pa_nil))) pa_nil)))))
  (pss_cons (ps_for PassesOwn.never rfl (pi_range1 (by rfl) T.f_range (pa_cons pe_int pa_nil)) (pg_name (i := 4) sc_law.nd rfl (Or.inl rfl)) (pss_cons (ps_set (i := 1) sc_law.nd rfl (Or.inl rfl) (pe_callQ (H_law_pool T) (hr.mono (by omega)) passL (pa_cons (pv 0) (pa_cons (pv 4) pa_nil))))
  (pss_cons (ps_asg (pe_tup (pa_cons (pe_callQ (H_law_one T) (hr.mono (by omega)) passL (pa_cons (pv 1) (pa_cons (pe_lst (pa_cons pe_int (pa_cons pe_int (pa_cons pe_int (pa_cons pe_int (pa_cons pe_int (pa_cons pe_int (pa_cons pe_int (pa_cons pe_int (pa_cons pe_int (pa_cons pe_int (pa_cons pe_int (pa_cons pe_int (pa_cons pe_int (pa_cons pe_int (pa_cons pe_int pa_nil)))))))))))))))) pa_nil))) (pa_cons (pe_callQ (H_law_take T) (hr.mono (by omega)) passL (pa_cons (pv 1) (pa_cons pe_int pa_nil))) pa_nil))) (pg_tup (by rfl) (pgs_cons (pg_name (i := 5) sc_law.nd rfl (Or.inl rfl)) (pgs_cons (pg_name (i := 6) sc_law.nd rfl (Or.inr rfl)) pgs_nil))))
  (pss_cons (ps_asg ?c1 (pg_lst (by rfl) (pgs_cons (pg_name (i := 7) sc_law.nd rfl (Or.inl rfl)) (pgs_cons (pg_name (i := 8) sc_law.nd rfl (Or.inl rfl)) (pgs_cons (pg_name (i := 9) sc_law.nd rfl (Or.inl rfl)) pgs_nil)))))
  (pss_cons (ps_set (i := 10) sc_law.nd rfl (Or.inl rfl) (pe_ix (ix_D (K := K)) (pv 2) pe_int (fun _ _ => rfl)))
  (pss_cons (ps_set (i := 11) sc_law.nd rfl (Or.inl rfl) (pe_callQ (H_law_due T) (hr.mono (by omega)) passL (pa_cons (pv 5) (pa_cons (pv 7) (pa_cons (pv 8) (pa_cons (pv 9) (pa_cons (pv 10) pa_nil)))))))
  (pss_one (ps_if (PW.pt (pw_and (pt_cmpR op_notN (pv 11) pe_non (nomark _)) (pw_and1 (pt_cmpR (op_neK (K := K) hr.units) (pe_callQ (H_law_refusal T U V) (hr.mono (by omega)) passL (pa_cons (pv 5) (pa_cons (pe_ix (ix_D (K := K)) (pv 7) pe_int (fun _ _ => rfl)) (pa_cons (pe_ix (ix_D (K := K)) (pv 8) pe_int (fun _ _ => rfl)) (pa_cons (pe_ix (ix_D (K := K)) (pv 9) pe_int (fun _ _ => rfl)) (pa_cons (pe_ix (ix_D (K := K)) (pv 10) pe_int (fun _ _ => rfl)) (pa_cons (pe_ix (ix_D (K := K)) (pe_ix (ix_D (K := K)) (pv 2) pe_int (fun _ _ => rfl)) pe_int (fun _ _ => rfl)) pa_nil))))))) (pv 11) (nomark _))))) (pss_one (ps_ret pe_bl)) pss_nil))))))))
  (pss_one (ps_ret (pe_callQ (H_law_single_right T U V) (hr.mono (by omega)) passL (pa_cons (pe_ix (ix_D (K := K)) (pe_ix (ix_D (K := K)) (pv 2) pe_int (fun _ _ => rfl)) pe_int (fun _ _ => rfl)) pa_nil))))))))
    case c1 => exact (pe_lc (own := [("k", 12)]) (g := (gName 12)) (tt := tYes) rfl sc_law.nd (pi_range1 (by rfl) T.f_range (pa_cons pe_int pa_nil)) (blkOk_by (N := N_law) (sc := defScope s_law) (by decide +kernel)) (fun _ _ _ _ _ => (pg_name (i := 12) sc_law.nd rfl (Or.inl rfl))) (fun _ _ _ _ _ => pts_nil) (fun _ _ _ _ _ => (pe_ifExp (PW.pt (pw_or (pt_cmpR op_eq (pv 6) (pv 12) (nomark _)) (pw_or1 (PW.pt (pw_and (pt_cmpR op_eq (pv 6) pe_int (nomark _)) (pw_and1 (pt_cmpR op_ne (pv 12) pe_int (nomark _)))))))) (pe_ix (ix_D (K := K)) (pv 3) (pv 12) (fun _ _ => rfl)) (pe_ix (ix_D (K := K)) (pv 2) (pv 12) (fun _ _ => rfl)))))
  case rd =>
    obtain ⟨a, ns, rfl, hS, hn, q⟩ := h
    refine seq_asg ⟨_, rfl, a, 0, ns, rfl, hS, by decide, by decide, hn, fun H1 l b c s1 hl1 hl => ?_⟩
    refine seq_asg ⟨_, rfl, l, b, c, rfl, hl, fun H2 vw pr tb cd s2 hpr htb hcd hvw => ?_⟩
    have s02 : Same H H2 := SameB.same hl1 s1 s2
    refine seq_ev (K := K) (i := 3) (d := .tuple [fine0, fine1, fine2]) (by walk_at "ev") fun H3 vf s3 hvf => ?_
    have s03 := s02.trans s3
    have hvw3 : Dp K H3 vw (.tuple [pr, tb, cd, chs]) := hvw.mv s3
    have hS3 := s03.seq hS
    refine ⟨8, rfl, by decide, by decide, for_it walk_range (fun i σ' H' => (∃ r1 r4 r5 r6 r7 r8 r9 r10 r11, σ' = [some (.ref a), r1, some vw, some vf, r4, r5, r6, r7, r8, r9, r10, r11, none]) ∧ Same H3 H') ⟨⟨_, _, _, _, _, _, _, _, _, rfl⟩, Same.refl _⟩ (fun _ _ _ _ _ => True.intro) ?_ ?_⟩
    · rintro i x σ' H4 H5 hi ⟨⟨r1, r4, r5, r6, r7, r8, r9, r10, r11, rfl⟩, s4⟩ ⟨rfl, rfl⟩
      have hi8 : i < 8 := hi
      show tSeq _ _ _ _ _
      refine seq_asg ⟨_, rfl, _, rfl, a, 0 + (i : Int), ns, rfl, s4.seq hS3, by omega, by omega, hn, fun H6 l2 b2 c2 s6 hl6 hlb => ?_⟩
      show tCall (spOne K) [] E0 _ _ _ _
      refine one_callJ (K := K) (j := 1) (ds := waysD.map fun n => .int (n : Nat)) rfl hlb (by walk_at "ev") (by decide) (by decide) (by decide) fun H7 vy d b7 c7 s7 hl7 hd hv => ?_
      obtain ⟨w, hw, rfl⟩ := List.mem_map.mp hd
      cases dp_int hv
      have hw12 : w ≤ 12 := (by decide : ∀ n ∈ waysD, n ≤ 12) w hw
      refine ⟨_, rfl, l2, 4, b7, c7, rfl, hl7, by decide, by decide, fun H8 r b8 c8 s8 hl8 r0 r1' => ?_⟩
      refine ⟨Nat.le_of_lt (small1000 (by simp)), fun t ht => ?_⟩
      refine ⟨t, _, rfl, .inl (.inl upd_same), rfl, _, _, rfl, _, _, rfl, rfl, ?_⟩
      have s59 : Same H5 (upd H8 t (.tup [.int (w : Int), .int r])) := (SameB.same hl6 s6 (s7.trans s8)).trans (Same.new ht)
      generalize upd H8 t (.tup [.int (w : Int), .int r]) = H9 at *
      have hvw9 := hvw3.mv (s4.trans s59)
      have hvf9 := hvf.mv (s4.trans s59)
      obtain ⟨gp, gt, gk, a1, a2⟩ := sel_ok r0 r1' hpr htb hcd
      dsimp only
      refine seq_lcR (by decide) (by decide) (LC_range (K := K) (selD r pr tb cd) (by decide) ?_ ?_ ?_)
      · intro j hj
        have n0 := noLs_all.mp nl_progs pr hpr
        have n1 := noLs_all.mp nl_tabs tb htb
        have n2 := noLs_all.mp nl_codes cd hcd
        unfold selD
        split
        · match j, hj with
          | 0, _ => decide +kernel
          | 1, _ => decide +kernel
          | 2, _ => decide +kernel
        · match j, hj with
          | 0, _ => exact n0
          | 1, _ => exact n1
          | 2, _ => exact n2
      · intro j H10 C hj s10 k
        refine ⟨rfl, ?_⟩
        walk_at "rd"
        have hj3 : j < 3 := hj
        have f1 : ∀ {d : PyData}, [fine0, fine1, fine2][j]? = some d → d = [fine0, fine1, fine2].getD j .none := fun h => by rw [List.getD_eq_getElem?_getD, h]; rfl
        have f2 : ∀ {d : PyData}, [pr, tb, cd, chs][j]? = some d → d = [pr, tb, cd].getD j .none := fun h => by
          match j, hj3, h with
          | 0, _, h => exact (Option.some.inj h).symm
          | 1, _, h => exact (Option.some.inj h).symm
          | 2, _, h => exact (Option.some.inj h).symm
        have yes : selD r pr tb cd j = [fine0, fine1, fine2].getD j .none → rIxDp K vf (.int (j : Int)) H10 C := fun e => by
          have hg : [fine0, fine1, fine2][j]? = some ([fine0, fine1, fine2][j]'hj3) := List.getElem?_eq_getElem _
          exact ⟨_, j, _, rfl, hvf9.mv s10, hg, fun v hv => k _ _ (Same.refl _) (by rw [e, ← f1 hg]; exact hv)⟩
        have no : selD r pr tb cd j = [pr, tb, cd].getD j .none → rIxDp K vw (.int (j : Int)) H10 C := fun e => by
          have hg : [pr, tb, cd, chs][j]? = some ([pr, tb, cd, chs][j]'(Nat.lt_succ_of_lt hj3)) := List.getElem?_eq_getElem _
          exact ⟨_, j, _, rfl, hvw9.mv s10, hg, fun v hv => k _ _ (Same.refl _) (by rw [e, ← f2 hg]; exact hv)⟩
        by_cases k1 : r = (j : Int)
        · rw [if_pos k1]
          exact yes (by unfold selD; rw [if_pos (.inl k1)])
        · rw [if_neg k1]
          by_cases k2 : r = 3
          · rw [if_pos k2]
            by_cases k3 : (j : Int) = 1
            · rw [if_neg (by simpa using k3)]
              exact no (by unfold selD; rw [if_neg (fun h => h.elim k1 (fun h => h.2 k3))])
            · rw [if_pos (by simpa using k3)]
              exact yes (by unfold selD; rw [if_pos (.inr ⟨k2, k3⟩)])
          · rw [if_neg k2]
            exact no (by unfold selD; rw [if_neg (fun h => h.elim k1 (fun h => k2 h.1))])
      · intro H11 p s11 hp hl11
        obtain ⟨p', xs, e, hSx, hAx⟩ := dp_lst hl11
        cases e
        obtain ⟨pp, pe, e0, g0, np, op, pl⟩ := gp
        obtain ⟨tp, te, e1, g1, ot⟩ := gt
        obtain ⟨cl, ce, e2, g2, oc⟩ := gk
        rw [e0, e1] at a1
        rw [e2, e1] at a2
        have a1' := a1.imp isT_ne isT_ne
        have a2' := a2.imp isT_ne isT_ne
        rw [show (List.range (Int.toNat 3)).map (selD r pr tb cd) = [selD r pr tb cd 0, selD r pr tb cd 1, selD r pr tb cd 2] from rfl, e0, e1, e2] at hAx
        obtain ⟨cc, wh, easked, hcc, hdue, hok⟩ := asked_due hw12 g0 g1 g2 a1' a2'
        cases hAx with
        | cons h7 hAx =>
        cases hAx with
        | cons h8 hAx =>
        cases hAx with
        | cons h9 hAx =>
        cases hAx
        rename_i v7 v8 v9
        refine ⟨p, _, rfl, hSx, rfl, _, _, rfl, _, _, rfl, _, _, rfl, rfl, ?_⟩
        have hvw11 := hvw9.mv s11
        refine seq_ev (K := K) (i := 10) (d := chs) (ev_ix (ev_var rfl hvw11) (by decide) rfl) fun H12 v10 s12 h10 => ?_
        have h7' := h7.mv s12
        have h8' := h8.mv s12
        have h9' := h9.mv s12
        refine seq_asg (call_evs (K := K) (ds := [.int (w : Int), .tuple [pp, pe], .tuple [tp, te], .tuple [.tuple cl, ce], chs]) (evs_cons (ev_var rfl (.int _)) (evs_cons (ev_var rfl h7') (evs_cons (ev_var rfl h8') (evs_cons (ev_var rfl h9') (evs_cons (ev_var rfl h10) evs_nil))))) fun H13 vs s13 hvs => ?_)
        cases hvs with
        | cons k1 hvs =>
        cases hvs with
        | cons k2 hvs =>
        cases hvs with
        | cons k3 hvs =>
        cases hvs with
        | cons k4 hvs =>
        cases hvs with
        | cons k5 hvs =>
        cases hvs
        cases dp_int k1
        refine ⟨w, _, _, _, _, pp, pe, tp, te, .tuple cl, ce, rfl, hw12, k2, k3, k4, k5, fun H14 vd s14 hvd => ?_⟩
        rw [hdue] at hvd
        have s1114 := s12.trans (s13.trans s14)
        have h7'' := h7.mv s1114
        have h8'' := h8.mv s1114
        have h9'' := h9.mv s1114
        have h10'' := h10.mv (s13.trans s14)
        have hvw14 := hvw11.mv s1114
        have s314 : Same H3 H14 := s4.trans (s59.trans (s11.trans s1114))
        refine if_no (K := K) (tr_and (j := true) (k := false) (tr_nnv (b := err cc wh) rfl hvd) fun H15 s15 Q' q' => ?_) fun H15 s15 => ⟨⟨_, _, _, _, _, _, _, _, _, rfl⟩, s314.trans s15⟩
        obtain ⟨tp', te', etb, _, _⟩ := goodT tb htb
        have hvwB : Dp K H15 vw (.tuple [pr, .tuple [tp', te'], cd, chs]) := by
          rw [← etb]
          exact hvw14.mv s15
        show tCall (spRefusal K) [] E0 _ _ _ _
        refine call_evs (K := K) (ds := [.int (w : Int), pp, tp, .tuple cl, zeros 3001, tp']) (evs_cons (ev_var rfl (.int _)) (evs_cons (ev_ix (ev_var rfl (h7''.mv s15)) (by decide) rfl) (evs_cons (ev_ix (ev_var rfl (h8''.mv s15)) (by decide) rfl) (evs_cons (ev_ix (ev_var rfl (h9''.mv s15)) (by decide) rfl)
          (evs_cons (ev_ix (ev_var rfl (h10''.mv s15)) (by decide) rfl) (evs_cons (ev_ix (ev_ix (ev_var rfl hvwB) (by decide) rfl) (by decide) rfl) evs_nil)))))) fun H16 us s16 hus => ?_
        cases hus with
        | cons k1 hus =>
        cases hus with
        | cons k2 hus =>
        cases hus with
        | cons k3 hus =>
        cases hus with
        | cons k4 hus =>
        cases hus with
        | cons k5 hus =>
        cases hus with
        | cons k6 hus =>
        cases hus
        cases dp_int k1
        refine ⟨w, _, _, _, _, _, pp, tp, cl, tp', cc, wh, rfl, k2, k3, k4, k5, k6, ⟨hw12, np, op, ot, oc, by rw [easked]; rfl, pl⟩, easked, hcc, fun H17 vr s17 hvr => ⟨vd, rfl, _, _, hvr, hvd.mv (s15.trans (s16.trans s17)), hok.2, hok.2, _, rfl, ?_⟩⟩
        have ee : PyData.eqv (.tuple [.str cc, wh]) (err cc wh) = true := hok.1
        rw [ee]
        exact q' _ (s16.trans s17)
    · rintro σ' H' ⟨⟨r1, r4, r5, r6, r7, r8, r9, r10, r11, rfl⟩, s4⟩
      dsimp only
      obtain ⟨tp', te', rfl, _, _⟩ := goodT tb htb
      have hvw' := hvw3.mv s4
      show tRet _ _ _ _
      have e1 : EvS K (tOp (rIxDp K) (tVar 2) (tC (.int 1))) [some (.ref a), r1, some vw, some vf, r4, r5, r6, r7, r8, r9, r10, r11, none] H' (.tuple [tp', te']) := ev_ix (ev_var rfl hvw') (by decide) rfl
      have e2 : EvS K (tOp (rIxDp K) (tOp (rIxDp K) (tVar 2) (tC (.int 1))) (tC (.int 0))) [some (.ref a), r1, some vw, some vf, r4, r5, r6, r7, r8, r9, r10, r11, none] H' tp' := ev_ix e1 (by decide) rfl
      exact call_evs (K := K) (ds := [tp']) (evs_cons e2 evs_nil) fun H5 vs s5 hvs => by
        cases hvs with
        | cons k1 hvs =>
        cases hvs
        exact ⟨_, tp', rfl, k1, q⟩

end
end An
namespace An
open PySem PySem.Spec PyProof.Rows L2
section
variable {K : PySem.W.Frag} {h : Heap} {mg : Str → Option Value}
theorem tx_of (X : K.In h) (G : h.Ns mainGlobals mg) (c : He.SaysD hfa hfn K) (ex : exB K = true) (er : fnR K (He.ma K (He.ga K "Refused") "__init__") = fnRv) : Tx PySem.Challenge.pw_anytwo_k65_which_of_two_wrong_things_is K mg := by
  obtain ⟨x1, ex⟩ := He.ba ex
  obtain ⟨x2, ex⟩ := He.ba ex
  obtain ⟨x3, ex⟩ := He.ba ex
  have r8 := List.all_eq_true.mp x2
  obtain ⟨y0, x3⟩ := He.ba x3
  obtain ⟨y1, x3⟩ := He.ba x3
  obtain ⟨y2, x3⟩ := He.ba x3
  obtain ⟨y3, x3⟩ := He.ba x3
  obtain ⟨y4, x3⟩ := He.ba x3
  exact {
    d_is_number := ⟨_, _, He.glo_ok X G (c.fact 0 (f := .glo "is_number") rfl), fun_of (c.def_ 0 (d := dd_is_number) rfl).choose_spec⟩
    d_is_of := ⟨_, _, He.glo_ok X G (c.fact 1 (f := .glo "is_of") rfl), fun_of (c.def_ 1 (d := dd_is_of) rfl).choose_spec⟩
    d_forms_of := ⟨_, _, He.glo_ok X G (c.fact 2 (f := .glo "forms_of") rfl), fun_of (c.def_ 2 (d := dd_forms_of) rfl).choose_spec⟩
    d_has_form := ⟨_, _, He.glo_ok X G (c.fact 3 (f := .glo "has_form") rfl), fun_of (c.def_ 3 (d := dd_has_form) rfl).choose_spec⟩
    d_bodies_of := ⟨_, _, He.glo_ok X G (c.fact 4 (f := .glo "bodies_of") rfl), fun_of (c.def_ 4 (d := dd_bodies_of) rfl).choose_spec⟩
    d_walked := ⟨_, _, He.glo_ok X G (c.fact 5 (f := .glo "walked") rfl), fun_of (c.def_ 5 (d := dd_walked) rfl).choose_spec⟩
    d_want_program := ⟨_, _, He.glo_ok X G (c.fact 6 (f := .glo "want_program") rfl), fun_of (c.def_ 6 (d := dd_want_program) rfl).choose_spec⟩
    d_want_choices := ⟨_, _, He.glo_ok X G (c.fact 7 (f := .glo "want_choices") rfl), fun_of (c.def_ 7 (d := dd_want_choices) rfl).choose_spec⟩
    d_first_place := ⟨_, _, He.glo_ok X G (c.fact 8 (f := .glo "first_place") rfl), fun_of (c.def_ 8 (d := dd_first_place) rfl).choose_spec⟩
    d_end_place := ⟨_, _, He.glo_ok X G (c.fact 9 (f := .glo "end_place") rfl), fun_of (c.def_ 9 (d := dd_end_place) rfl).choose_spec⟩
    d_next_place := ⟨_, _, He.glo_ok X G (c.fact 10 (f := .glo "next_place") rfl), fun_of (c.def_ 10 (d := dd_next_place) rfl).choose_spec⟩
    d_going := ⟨_, _, He.glo_ok X G (c.fact 11 (f := .glo "going") rfl), fun_of (c.def_ 11 (d := dd_going) rfl).choose_spec⟩
    d_want_let := ⟨_, _, He.glo_ok X G (c.fact 12 (f := .glo "want_let") rfl), fun_of (c.def_ 12 (d := dd_want_let) rfl).choose_spec⟩
    d_gone := ⟨_, _, He.glo_ok X G (c.fact 13 (f := .glo "gone") rfl), fun_of (c.def_ 13 (d := dd_gone) rfl).choose_spec⟩
    d_play := ⟨_, _, He.glo_ok X G (c.fact 14 (f := .glo "play") rfl), fun_of (c.def_ 14 (d := dd_play) rfl).choose_spec⟩
    d_pair_word := ⟨_, _, He.glo_ok X G (c.fact 15 (f := .glo "pair_word") rfl), fun_of (c.def_ 15 (d := dd_pair_word) rfl).choose_spec⟩
    d_want_table := ⟨_, _, He.glo_ok X G (c.fact 16 (f := .glo "want_table") rfl), fun_of (c.def_ 16 (d := dd_want_table) rfl).choose_spec⟩
    d_breaking_of := ⟨_, _, He.glo_ok X G (c.fact 17 (f := .glo "breaking_of") rfl), fun_of (c.def_ 17 (d := dd_breaking_of) rfl).choose_spec⟩
    d_is_spot := ⟨_, _, He.glo_ok X G (c.fact 18 (f := .glo "is_spot") rfl), fun_of (c.def_ 18 (d := dd_is_spot) rfl).choose_spec⟩
    d_fault_of := ⟨_, _, He.glo_ok X G (c.fact 19 (f := .glo "fault_of") rfl), fun_of (c.def_ 19 (d := dd_fault_of) rfl).choose_spec⟩
    d_want_state := ⟨_, _, He.glo_ok X G (c.fact 20 (f := .glo "want_state") rfl), fun_of (c.def_ 20 (d := dd_want_state) rfl).choose_spec⟩
    d_steps_of := ⟨_, _, He.glo_ok X G (c.fact 21 (f := .glo "steps_of") rfl), fun_of (c.def_ 21 (d := dd_steps_of) rfl).choose_spec⟩
    d_least_steps := ⟨_, _, He.glo_ok X G (c.fact 22 (f := .glo "least_steps") rfl), fun_of (c.def_ 22 (d := dd_least_steps) rfl).choose_spec⟩
    d_breaking := ⟨_, _, He.glo_ok X G (c.fact 23 (f := .glo "breaking") rfl), fun_of (c.def_ 23 (d := dd_breaking) rfl).choose_spec⟩
    d_told_run := ⟨_, _, He.glo_ok X G (c.fact 24 (f := .glo "told_run") rfl), fun_of (c.def_ 24 (d := dd_told_run) rfl).choose_spec⟩
    d_joined := ⟨_, _, He.glo_ok X G (c.fact 25 (f := .glo "joined") rfl), fun_of (c.def_ 25 (d := dd_joined) rfl).choose_spec⟩
    d_words_of := ⟨_, _, He.glo_ok X G (c.fact 26 (f := .glo "words_of") rfl), fun_of (c.def_ 26 (d := dd_words_of) rfl).choose_spec⟩
    d_parting := ⟨_, _, He.glo_ok X G (c.fact 27 (f := .glo "parting") rfl), fun_of (c.def_ 27 (d := dd_parting) rfl).choose_spec⟩
    d_alike := ⟨_, _, He.glo_ok X G (c.fact 28 (f := .glo "alike") rfl), fun_of (c.def_ 28 (d := dd_alike) rfl).choose_spec⟩
    d_leads_on := ⟨_, _, He.glo_ok X G (c.fact 29 (f := .glo "leads_on") rfl), fun_of (c.def_ 29 (d := dd_leads_on) rfl).choose_spec⟩
    d_want_code := ⟨_, _, He.glo_ok X G (c.fact 30 (f := .glo "want_code") rfl), fun_of (c.def_ 30 (d := dd_want_code) rfl).choose_spec⟩
    d_run := ⟨_, _, He.glo_ok X G (c.fact 31 (f := .glo "run") rfl), fun_of (c.def_ 31 (d := dd_run) rfl).choose_spec⟩
    d_watch := ⟨_, _, He.glo_ok X G (c.fact 32 (f := .glo "watch") rfl), fun_of (c.def_ 32 (d := dd_watch) rfl).choose_spec⟩
    d_law_pool := ⟨_, _, He.glo_ok X G (c.fact 33 (f := .glo "_law_pool") rfl), fun_of (c.def_ 33 (d := dd_law_pool) rfl).choose_spec⟩
    d_law_take := ⟨_, _, He.glo_ok X G (c.fact 34 (f := .glo "_law_take") rfl), fun_of (c.def_ 34 (d := dd_law_take) rfl).choose_spec⟩
    d_law_one := ⟨_, _, He.glo_ok X G (c.fact 35 (f := .glo "_law_one") rfl), fun_of (c.def_ 35 (d := dd_law_one) rfl).choose_spec⟩
    d_law_wrong := ⟨_, _, He.glo_ok X G (c.fact 36 (f := .glo "_law_wrong") rfl), fun_of (c.def_ 36 (d := dd_law_wrong) rfl).choose_spec⟩
    d_law_asked := ⟨_, _, He.glo_ok X G (c.fact 37 (f := .glo "_law_asked") rfl), fun_of (c.def_ 37 (d := dd_law_asked) rfl).choose_spec⟩
    d_law_refusal := ⟨_, _, He.glo_ok X G (c.fact 38 (f := .glo "_law_refusal") rfl), fun_of (c.def_ 38 (d := dd_law_refusal) rfl).choose_spec⟩
    d_law_due := ⟨_, _, He.glo_ok X G (c.fact 39 (f := .glo "_law_due") rfl), fun_of (c.def_ 39 (d := dd_law_due) rfl).choose_spec⟩
    d_law_last := ⟨_, _, He.glo_ok X G (c.fact 40 (f := .glo "_law_last") rfl), fun_of (c.def_ 40 (d := dd_law_last) rfl).choose_spec⟩
    d_law_single_right := ⟨_, _, He.glo_ok X G (c.fact 41 (f := .glo "_law_single_right") rfl), fun_of (c.def_ 41 (d := dd_law_single_right) rfl).choose_spec⟩
    d_law := ⟨_, _, He.glo_ok X G (c.fact 42 (f := .glo "law") rfl), fun_of (c.def_ 42 (d := dd_law) rfl).choose_spec⟩
    d_is_row_tables := ⟨_, _, He.glo_ok X G (c.fact 43 (f := .glo "is_row_tables") rfl), fun_of (c.def_ 43 (d := dd_is_row_tables) rfl).choose_spec⟩
    d_is_row_machine := ⟨_, _, He.glo_ok X G (c.fact 44 (f := .glo "is_row_machine") rfl), fun_of (c.def_ 44 (d := dd_is_row_machine) rfl).choose_spec⟩
    f_isinstance := He.free_ok X G (c.fact 45 (f := .free "isinstance") rfl)
    f_int := He.free_ok X G (c.fact 46 (f := .free "int") rfl)
    f_bool := He.free_ok X G (c.fact 47 (f := .free "bool") rfl)
    f_tuple := He.free_ok X G (c.fact 48 (f := .free "tuple") rfl)
    f_str := He.free_ok X G (c.fact 49 (f := .free "str") rfl)
    f_len := He.free_ok X G (c.fact 50 (f := .free "len") rfl)
    f_all := He.free_ok X G (c.fact 51 (f := .free "all") rfl)
    f_enumerate := He.free_ok X G (c.fact 52 (f := .free "enumerate") rfl)
    f_range := He.free_ok X G (c.fact 53 (f := .free "range") rfl)
    f_max := He.free_ok X G (c.fact 54 (f := .free "max") rfl)
    f_any := He.free_ok X G (c.fact 55 (f := .free "any") rfl)
    g_MOST_STATEMENTS := He.int_ok X G (c.fact 57 (f := .int "MOST_STATEMENTS" 40) rfl)
    g_DEEPEST := He.int_ok X G (c.fact 58 (f := .int "DEEPEST" 6) rfl)
    g_MOST_CHOICES := He.int_ok X G (c.fact 59 (f := .int "MOST_CHOICES" 3000) rfl)
    g_MOST_THINGS := He.int_ok X G (c.fact 60 (f := .int "MOST_THINGS" 200) rfl)
    g_MOST_STATES := He.int_ok X G (c.fact 61 (f := .int "MOST_STATES" 200) rfl)
    g_MOST_TABLES := He.int_ok X G (c.fact 62 (f := .int "MOST_TABLES" 8) rfl)
    g_LOOP := He.str_ok X G (c.fact 63 (f := .str "LOOP" "loop") rfl)
    g_EITHER := He.str_ok X G (c.fact 64 (f := .str "EITHER" "either") rfl)
    g_JUMP := He.str_ok X G (c.fact 65 (f := .str "JUMP" "jump") rfl)
    g_STOP := He.str_ok X G (c.fact 66 (f := .str "STOP" "stop") rfl)
    g_ALL_OF := He.str_ok X G (c.fact 67 (f := .str "ALL_OF" "and") rfl)
    g_ONE_OF := He.str_ok X G (c.fact 68 (f := .str "ONE_OF" "or") rfl)
    g_LESS := He.str_ok X G (c.fact 69 (f := .str "LESS" "less") rfl)
    g_NAMES := He.glo_ok X G (c.fact 70 (f := .glo "NAMES") rfl)
    t_NAMES := fun H => He.tupB_ok y0 H
    g_PILES := He.glo_ok X G (c.fact 71 (f := .glo "PILES") rfl)
    t_PILES := fun H => He.tupB_ok y1 H
    g_OWN_WORDS := He.glo_ok X G (c.fact 72 (f := .glo "OWN_WORDS") rfl)
    t_OWN_WORDS := fun H => He.tupB_ok y2 H
    g_LETTERS := He.glo_ok X G (c.fact 73 (f := .glo "LETTERS") rfl)
    t_LETTERS := fun H => He.tupB_ok y3 H
    g_SPOTS := He.glo_ok X G (c.fact 74 (f := .glo "SPOTS") rfl)
    t_SPOTS := fun H => He.tupB_ok y4 H
    ref := refT_of x1 er (He.free_ok X G (c.fact 56 (f := .free "super") rfl)) (by kernel_rfl)
    r_BadProgram := refC_of (r8 "BadProgram" (by decide))
    g_BadProgram := He.glo_ok X G (c.fact 75 (f := .glo "BadProgram") rfl)
    r_BadWord := refC_of (r8 "BadWord" (by decide))
    g_BadWord := He.glo_ok X G (c.fact 76 (f := .glo "BadWord") rfl)
    r_BadChoices := refC_of (r8 "BadChoices" (by decide))
    g_BadChoices := He.glo_ok X G (c.fact 77 (f := .glo "BadChoices") rfl)
    r_BadThing := refC_of (r8 "BadThing" (by decide))
    g_BadThing := He.glo_ok X G (c.fact 78 (f := .glo "BadThing") rfl)
    r_BadPlace := refC_of (r8 "BadPlace" (by decide))
    g_BadPlace := He.glo_ok X G (c.fact 79 (f := .glo "BadPlace") rfl)
    r_BadCode := refC_of (r8 "BadCode" (by decide))
    g_BadCode := He.glo_ok X G (c.fact 80 (f := .glo "BadCode") rfl)
    r_BadTable := refC_of (r8 "BadTable" (by decide))
    g_BadTable := He.glo_ok X G (c.fact 81 (f := .glo "BadTable") rfl)
    r_TooMany := refC_of (r8 "TooMany" (by decide))
    g_TooMany := He.glo_ok X G (c.fact 82 (f := .glo "TooMany") rfl)
  }
theorem tcl_of (X : K.In h) (G : h.Ns mainGlobals mg) (c : He.SaysD hfa hfn K) : Tcl K mg := by
  exact {
    c_Scene := ⟨He.glo_ok X G (c.fact 83 (f := .glo "Scene") rfl), He.mkr_ok (c.fact 84 (f := .mkr "Scene") rfl), ⟨_, fun_of (c.def_ 45 (d := dd_Scene_init) rfl).choose_spec⟩, He.cls_ok (c.fact 85 (f := .cls "Scene") rfl)⟩
    n_Scene_events := He.noat_ok (c.fact 86 (f := .noat "Scene" "events") rfl)
    n_Scene_steps := He.noat_ok (c.fact 87 (f := .noat "Scene" "steps") rfl)
    n_Scene_made := He.noat_ok (c.fact 88 (f := .noat "Scene" "made") rfl)
    n_Scene_names := He.noat_ok (c.fact 89 (f := .noat "Scene" "names") rfl)
    n_Scene_piles := He.noat_ok (c.fact 90 (f := .noat "Scene" "piles") rfl)
    c_Going := ⟨He.glo_ok X G (c.fact 91 (f := .glo "Going") rfl), He.mkr_ok (c.fact 92 (f := .mkr "Going") rfl), ⟨_, fun_of (c.def_ 46 (d := dd_Going_init) rfl).choose_spec⟩, He.cls_ok (c.fact 93 (f := .cls "Going") rfl)⟩
    n_Going_scene := He.noat_ok (c.fact 94 (f := .noat "Going" "scene") rfl)
    n_Going_place := He.noat_ok (c.fact 95 (f := .noat "Going" "place") rfl)
    n_Going_bad := He.noat_ok (c.fact 96 (f := .noat "Going" "bad") rfl)
    n_Going_is_full := He.noat_ok (c.fact 97 (f := .noat "Going" "is_full") rfl)
    c_Told := ⟨He.glo_ok X G (c.fact 98 (f := .glo "Told") rfl), He.mkr_ok (c.fact 99 (f := .mkr "Told") rfl), ⟨_, fun_of (c.def_ 47 (d := dd_Told_init) rfl).choose_spec⟩, He.cls_ok (c.fact 100 (f := .cls "Told") rfl)⟩
    n_Told_moves := He.noat_ok (c.fact 101 (f := .noat "Told" "moves") rfl)
    n_Told_marks := He.noat_ok (c.fact 102 (f := .noat "Told" "marks") rfl)
    c_Breaking := ⟨He.glo_ok X G (c.fact 103 (f := .glo "Breaking") rfl), He.mkr_ok (c.fact 104 (f := .mkr "Breaking") rfl), ⟨_, fun_of (c.def_ 48 (d := dd_Breaking_init) rfl).choose_spec⟩, He.cls_ok (c.fact 105 (f := .cls "Breaking") rfl)⟩
    n_Breaking_one := He.noat_ok (c.fact 106 (f := .noat "Breaking" "one") rfl)
    c_Book := ⟨He.glo_ok X G (c.fact 107 (f := .glo "Book") rfl), He.mkr_ok (c.fact 108 (f := .mkr "Book") rfl), ⟨_, fun_of (c.def_ 49 (d := dd_Book_init) rfl).choose_spec⟩, He.cls_ok (c.fact 109 (f := .cls "Book") rfl)⟩
  }
theorem txe_of (ex : exB K = true) : Txe K := by
  obtain ⟨x1, ex⟩ := He.ba ex
  obtain ⟨x2, ex⟩ := He.ba ex
  obtain ⟨x3, ex⟩ := He.ba ex
  obtain ⟨x4, x5⟩ := He.ba ex
  have r8 := List.all_eq_true.mp x2
  exact ⟨fun c hc c' hc' => of_decide_eq_true (List.all_eq_true.mp (List.all_eq_true.mp x4 c hc) c' hc'), fun c hc => xfB_ok (List.all_eq_true.mp x5 c hc), fun c hc => (refC_of (r8 c ((by decide : ∀ c ∈ errs7, c ∈ errs8) c hc))).noN⟩
end
end An
open PySem PySem.W PySem.Calls PyProof.Rows
theorem PySem.Challenge.cw_anytwo_k65_which_of_two_wrong_things_is_holds : PySem.Challenge.rw_anytwo_k65_which_of_two_wrong_things_is.Holds := by
  w_on; o_law
  refine HandSHeadRun.head_imp (r := OpenLaw.row PySem.Challenge.rw_anytwo_k65_which_of_two_wrong_things_is) (q := view (OpenLaw.row PySem.Challenge.rw_anytwo_k65_which_of_two_wrong_things_is).prog [160]) (H := An.hookY) (ob := An.hob) (M := 20000) (loose := An.nms) (d := HandSHeadRun.topDef (OpenLaw.row PySem.Challenge.rw_anytwo_k65_which_of_two_wrong_things_is).prog 160) (kwd := []) An.hob_eq
    An.hrun (by kernel_rfl) (by kernel_rfl) (by kernel_rfl) (by rfl) (by first | assumption | decide +kernel) (by decide +kernel) ⟨rfl, rfl, rfl, rfl, rfl, by decide +kernel⟩ ?hw ?hc
  case hw => w_witness2
  case hc =>
    refine L2.walk_ofE (l := PySem.Challenge.rw_anytwo_k65_which_of_two_wrong_things_is) (n := 63) (k := 18) (x := "script") (CX := L2.CX0) rfl (by decide) (by kernel_rfl) ⟨rfl, by decide, by decide⟩ ?F (fun _ _ _ _ z => z)
    intro w mg fa h Y G hmg0
    obtain ⟨K, KX, c, ex, er⟩ := Y
    have hmg : mg ("law" : PySem.Str) = some (.ref fa) := by
      have e : (HandSHeadRun.topDef (OpenLaw.row PySem.Challenge.rw_anytwo_k65_which_of_two_wrong_things_is).prog 160).name = ("law" : PySem.Str) := by kernel_rfl
      rw [← e]
      exact hmg0
    have T := An.tx_of KX G c ex er
    obtain ⟨fd, FD⟩ := c.def_ 42 (d := An.dd_law) rfl
    have e := hmg.symm.trans (He.glo_ok KX G (c.fact 42 (f := .glo "law") rfl))
    cases e
    have b := L2.FunD.bindsA (ps := ["script"]) FD fun _ _ _ _ _ _ us hl => match us, hl with | [_], _ => rfl
    exact ⟨K, fd, An.spLaw K, KX, fun s v => b s [v] rfl, fun H a ns hl _ hS => ⟨a, ns, rfl, hS, hl, fun _ => rfl⟩, fun base _ _ => An.F_law T (An.tcl_of KX G c) (An.txe_of ex) (An.fun_of FD)⟩

