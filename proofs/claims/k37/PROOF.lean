import PyProof.Rows.All
import Wide.All
import OpenK.AllK
import Wide.FinOn
import PyProof.EqAt
import PyProof.EqKinds
import PyProof.TupleCall
import KE.KExcInit
import KE.KExcSuper
import HandS.ForMost
import HandS.Exc
import HandS.ExcSuper
import HandS.ExcField
import HandS.TryMany
import KE.KLam
import HandS.Lambda
import PyProof.ReprRoads
import KE.GoesEnum
import KE.GoesNew
import HandS.Walk
import HandS.IsInst
import HandS.Evl
import HandS.Flow
import PySem.Challenge.RW_forgetwhen_k37_whole_lateness_and_told_s
import HandS.WordsExc
import HandS.ExcOwn
import HandS.TupAny
import HandS.Conv
import HandS.SortInts
import HandS.Style
import PyProof.Rows.StrJoinMade
import HandS.EndOwn
set_option Elab.async false
set_option linter.all false
set_option maxRecDepth 100000
set_option maxHeartbeats 4000000
/-! own errors over an own class over Exception: super().__init__(text); self.at = at -/
namespace Fw
open PySem PySem.W PySem.Calls PyProof.Rows PySem.HandSPX
abbrev exTl : List Value := [.type "Exception", .type "BaseException", .type "object"]
/-! ### the text of __init__ -/
def iA (p1 p2 : Pos) : Arguments := { posonlyargs := [], args := [{ arg := "self", annotation := none, pos := p1 }, { arg := "at", annotation := none, pos := p2 }], vararg := none, kwonlyargs := [], kw_defaults := [], kwarg := none, defaults := [] }
def iSup (z : Str) (q : Nat → Pos) : Expr := .Call (.Attribute (.Call (.Name "super" (q 0)) [] [] (q 1)) "__init__" (q 2)) [.Constant (.str z) 0 (q 3)] [] (q 4)
def iB (z : Str) (q : Nat → Pos) : List Stmt := [.Expr (iSup z q) (q 4), .Assign [.Attribute (.Name "self" (q 5)) "at" (q 6)] (.Name "at" (q 7)) (q 8)]
def iS : Scope := { kind := .function, names := [(PySem.Str.ofString "self", .local), (PySem.Str.ofString "at", .local), (PySem.Str.ofString "__class__", .free), (PySem.Str.ofString "super", .globalImplicit)], isGenerator := false, isCoroutine := false, more := [] }
/-- what the written part says of an error class, at C, and of its __init__, at fI -/
structure AtTxt (P : Program) (K : Frag) (mg : Str → Option Value) (C fI : Addr) : Prop where
  cls : ∃ nm q N bs bm sn sub ab col dd k0 k1 k2 k3 k5, K.lookup C = some (excClassObj nm q C N bs bm true sn sub ab col dd k0 k1 k2 k3 k5 "Exception.__new__") ∧ excTail exTl bm = true ∧ alongIn K "__init__" bm = some (some (.builtin "Exception.__init__"))
  sa : findIn K (.ref C) "__setattr__" = some (some (.builtin "object.__setattr__"))
  ga : findIn K (.ref C) "__getattribute__" = some (some (.builtin "BaseException.__getattribute__"))
  gg : findIn K (.ref C) "__getattr__" = some none
  noN : findIn K (.ref C) "at" = some none
  iC : findIn K (.ref C) "__init__" = some (some (.ref fI))
  tC : typeIn K (.ref fI) = some (.type "function")
  kC : keepIn K (.ref C) = true
  exC : subIn K (.ref C) (.type "BaseException") = some true
  exE : subIn K (.ref C) (.type "Exception") = some true
  exS : mroIn K C (.ref C) = some true
  tyC : typeIn K (.ref C) = some (.type "type")
  hdC : hasDictIn K C = true
  op : nsIn K cStatics "thirdparty.any" = some none
  sup : mg "super" = none
  tsup : (P.main.scope.names.lookup ("super" : Str)).isSome = false
  fn : ∃ (oc : Value) (od : Option Addr) (doc pm kV : Value) (an : Option Addr) (cda cc : Addr) (ct : Value) (osl : Array (Option Value)) (p1 p2 : Pos) (q : Nat → Pos) (z qn : Str) (ccl cl : Value) (cdd cld : Option Addr) (vs : Array Value) (ccs csl : Array (Option Value)) (file : Str) (tf : Tok),
    K.lookup fI = some ⟨oc, od, .func (fnX "__init__" qn (iA p1 p2) (iB z q) iS [("__class__", cc)] .none kV doc pm an (.ref cda) ct), osl⟩ ∧ codeIn K (.ref cda) qn = true ∧
      K.lookup cda = some ⟨ccl, cdd, .fields vs, ccs⟩ ∧ vs[2]? = some (.str file tf) ∧ ((P.main.file : Str) == file) = true ∧ K.lookup cc = some ⟨cl, cld, .cell (some (.ref C)), csl⟩ ∧
      ∀ env : Env, ∃ pl : Sem Bool, eval (iSup z q) env = (do
        let ov ← attributeBase (.Call (.Name "super" (q 0)) [] [] (q 1)) "__init__" env (eval (.Call (.Name "super" (q 0)) [] [] (q 1)) env)
        standAt (q 2).atName
        let (f, first) ← holding [ov] (getMethod ov "__init__" pl)
        callWith (q 4) f first (backTo (q 4) (starEach [.Constant (.str z) 0 (q 3)] env)) [])
/-- what __init__ leaves of a fresh error at x -/
structure InitEnd (h h' : Heap) (x C dx t1 : Addr) (v : Value) : Prop where
  keep : ∀ b o, b ≠ x → h.get? b = some o → h'.get? b = some o
  obj : h'.get? x = some { cls := .ref C, dict := some dx, data := .fields #[.ref t1, .none, .none, .none, .bool false, .none] }
  dbig : h.objs.size ≤ dx
  dne : dx ≠ x
  ns : h'.Ns1 dx (fun y => if y = "at" then some v else none)
theorem boot_super : bootBuiltins "super" = some (.type "super") := by first | boot_by_name | rfl | kernel_rfl
section
variable {prog : Program} {w : World} {A : Around} {E : Value → Shared → Prop} {R : Result → Shared → Prop} {s : Shared} {K : Frag} {mg mb : Str → Option Value} {C fI : Addr}
/-- self.at = v, the first field -/
theorem at_store {hp : Heap} {g : Array GenState} {d : Drawn} {t : Nat} {os : OsState} {x t0 : Addr} {v : Value} {Q : Unit → Shared → Prop} (T : AtTxt prog K mg C fI) (X : K.In hp) (hx : hp.get? x = some (excO C t0))
    (hq : ∀ h' tk' dx, (∀ b o, b ≠ x → hp.get? b = some o → h'.get? b = some o) → hp.objs.size ≤ dx → dx ≠ x → h'.get? x = some { cls := .ref C, dict := some dx, data := .fields #[.ref t0, .none, .none, .none, .bool false, .none] } →
      h'.Ns1 dx (fun y => if y = "at" then some v else none) → Q () ⟨h', g, d, tk', os⟩) :
    wpAny (model prog w) A (setAttr (.ref x) "at" v) Q E ⟨hp, g, d, t, os⟩ := by
  obtain ⟨nm, q, N, bs, bm, sn, sub, ab, col, dd, k0, k1, k2, k3, k5, hC, hbm, _⟩ := T.cls
  have hcl : clsIn K C = some { name := nm, bases := bs, mro := .ref C :: bm, ns := N, qualname := q, hasDict := true, slotNames := sn, subclasses := sub, abstract := ab, collection := col, hasDel := false } := by unfold clsIn; rw [hC] <;> rfl
  refine set_plain X (ox := excO C t0) (od := none) ⟨hx, rfl, rfl, trivial⟩ T.sa ?_
  have hxs : x ≠ hp.objs.size := Nat.ne_of_lt (Heap.lt_size hx)
  have hover : excOver K C exTl = true := by
    unfold excOver
    rw [hcl]
    simp [Option.any, hbm]
  have htk : takerIn K C "at" = some none := by
    unfold takerIn
    rw [T.noN]
    rfl
  refine osa_openX (bmB := exTl) (od := none) F.store_Exception X (s := ⟨hp, g, d, t + 1, os⟩) ⟨hx, rfl, rfl, trivial⟩ hover htk fun b => ?_
  refine wpAny_bind (wpAny_pure (wpAny_bind (instanceDict_exc (s := ⟨hp, g, d, t + 1, os⟩) hx (looks_clsIn X hcl) rfl ?_)))
  show wpAny _ _ (Builtin.ObjectAttr.storeInDict hp.objs.size (.str "at" t) "at" v) _ _ _
  have hnd : ((hp.push (dictOf [] 0)).update x fun o => { o with dict := some hp.objs.size }).Ns hp.objs.size (fun _ => none) :=
    ⟨_, #[], _, (Heap.get?_update_ne _ _ _ _ hxs.symm).trans (Heap.get?_push_at rfl rfl), rfl, fun e he => absurd he (by simp), fun _ => rfl⟩
  refine store_in_new (hp := (hp.push (dictOf [] 0)).update x fun o => { o with dict := some hp.objs.size }) hnd fun h' tk' hn' hs => ?_
  have hx1 : (hp.push (dictOf [] 0)).get? x = some (excO C t0) := Heap.get?_push_of_some _ hx
  refine hq h' tk' hp.objs.size (fun b o hb ho => ?_) (Nat.le_refl _) hxs.symm ?_ hn'
  · exact (hs.2 b (Nat.ne_of_lt (Heap.lt_size ho))).trans ((Heap.get?_update_ne _ _ _ _ hb).trans (Heap.get?_push_of_some _ ho))
  · exact (hs.2 x hxs).trans (Heap.get?_update_self _ hx1 rfl)
theorem one_size (v : Value) : [v].length ≤ sizeLine := by
  rw [sizeLine_eq]
  exact (by decide : 1 ≤ 16777216)
theorem at_init (T : AtTxt prog K mg C fI) {x t0 : Addr} {v : Value} (X : K.In s.heap) (hlim : s.heap.NoLimit) (hg : s.heap.Ns mainGlobals mg) (hb : s.heap.Ns builtinsNs mb) (hbb : ∀ x : Str, x ≠ "__name__" → mb x = bootBuiltins x)
    (hx : s.heap.get? x = some (excO C t0)) (hnx : K.lookup x = none) (hroom : A.depth < recursionLimit)
    (hq : ∀ h' tk dx t1, InitEnd s.heap h' x C dx t1 v → R (.ok (.ret .none)) { s with heap := h', toks := tk }) :
    codeAny (model prog w) A (.call (.ref fI) ⟨[.ref x, v], []⟩) R s := by
  obtain ⟨oc, od, doc, pm, kV, an, cda, cc, ct, osl, p1, p2, q, z, qn, ccl, cl, cdd, cld, vs, ccs, csl, file, tf, hf, hcd, hcode, hvs, hfile, hcell, hev⟩ := T.fn
  obtain ⟨nm, qq, N, bs, bm, sn, sub, ab, col, dd, k0, k1, k2, k3, k5, hC, hbm, hal⟩ := T.cls
  have hcl : clsIn K C = some { name := nm, bases := bs, mro := .ref C :: bm, ns := N, qualname := qq, hasDict := true, slotNames := sn, subclasses := sub, abstract := ab, collection := col, hasDel := false } := by unfold clsIn; rw [hC] <;> rfl
  refine ks_codeAny_call_defAt (binds := [("self", .ref x), ("at", v)]) (body := iB z q) hroom (X _ _ hf) rfl hlim (codeRec_of X hcd) rfl (BindsTo.of_eq (by first | rfl | with_unfolding_all rfl)) (show ∀ y ∈ iS.names, y.2 ≠ NameKind.cell by decide) (by
    intro y hy
    simp only [List.mem_cons, List.not_mem_nil, or_false] at hy
    rcases hy with rfl | rfl <;> rfl) (fun h₁ hns kp => ?_) rfl rfl rfl
  have X₁ : K.In h₁ := X.keeps kp
  have hx₁ := kp _ _ hx
  have hg₁ := hg.keeps kp
  have hb₁ := hb.keeps kp
  have hIE : ∀ {h : Heap}, K.In h → h.get? x = some (excO C t0) → Looks (model prog w) h (isInstance (.ref x) (.type "Exception")) true := fun {h} Y hy =>
    (show InstAt h x (excO C t0) C none from ⟨hy, rfl, rfl, trivial⟩).type.andThen (looks_subIn Y T.exE)
  have hxC : x ≠ C := fun z => by rw [z, hC] at hnx; cases hnx
  obtain ⟨pl, hevE⟩ := hev (envX qn iS s.heap.objs.size fI (.ref cda) [("__class__", cc)])
  refine ks_wpAt_execs_cons (ks_wpAt_Expr_any (ks_wpAt_MethodCall (pl := pl) ?_ hevE) rfl (by with_unfolding_all rfl))
  refine ks_wpAt_super_base (env := envX qn iS s.heap.objs.size fI (.ref cda) [("__class__", cc)]) rfl rfl (by decide) rfl (X₁ _ _ hf) rfl rfl rfl (X₁ _ _ hcode) rfl hvs hfile T.tsup ?_
  refine ks_loadName_global rfl rfl (loadGlobal_builtin (env := envX qn iS s.heap.objs.size fI (.ref cda) [("__class__", cc)]) hg₁ T.sup hb₁ ((hbb _ (by decide +kernel)).trans boot_super) ⟨rfl, ?_⟩)
  refine wpAny_loadName_free rfl rfl rfl ⟨_, X₁ _ _ hcell, rfl⟩ ?_
  refine wpAny_loadName_local rfl rfl hns (by rfl) ?_
  refine ks_wpAny_isType_cls (X₁ _ _ hC) rfl ⟨rfl, ?_⟩
  refine ks_wpAny_call_super (X₁ _ _ hC) rfl hx₁ rfl (fun c e => by cases e) (looks_mroIn X₁ T.exS) (fun h₂ hso k₂ => ?_)
  have X₂ : K.In h₂ := X₁.keeps k₂
  refine kxs_getMethod kxs_Exception hso (looks_opaque X₂ T.op) (l₀ := .ref C :: bm) (fun A Q E s k q => wpAny_bind ((looks_clsIn X₂ hcl) A _ E s k (wpAny_pure q))) (ESX.drop_own C bm) X₂ hal (hIE X₂ (k₂ _ _ hx₁)) hxC (by decide) ?_
  show wpAny _ _ (callWith (q 4) (.ref h₂.objs.size) [] (backTo (q 4) (starEach (.Constant (.str z) 0 (q 3) :: []) (envX qn iS s.heap.objs.size fI (.ref cda) [("__class__", cc)]))) []) _ _ _
  refine ESX.callWith_bound (x := x) (first := []) ?_ rfl rfl
  show wpAny _ _ (spliced ((false, eval (.Constant (.str z) 0 (q 3)) (envX qn iS s.heap.objs.size fI (.ref cda) [("__class__", cc)])) :: [])) _ _ _
  refine Calls.spliced_cons (Calls.Constant_str (Calls.spliced_nil ⟨Heap.get?_push_size _ rfl, ?_⟩))
  have X₃ : K.In (h₂.push (kxs_mw "Exception.__init__" x)) := X₂.keeps fun b o e => Heap.get?_push_of_some _ e
  refine ESX.call_bw (X₃ _ _ hC) (Heap.get?_push_of_some _ (k₂ _ _ hx₁)) (Heap.get?_push_size _ rfl) (one_size _) (fun h₄ t1 k₄ hx₄ => ?_)
  have X₄ : K.In h₄ := fun a o e => k₄ a o (fun z => by rw [z, hnx] at e; cases e) (X₃ a o e)
  have ns4 : h₄.Ns s.heap.objs.size (fun y => [(("self" : Str), Value.ref x), ("at", v)].reverse.lookup y) := by
    obtain ⟨o, es, ep, ho, hr⟩ := hns
    refine ⟨o, es, ep, k₄ _ o (Nat.ne_of_gt (Heap.lt_size hx)) (Heap.get?_push_of_some _ (k₂ _ _ ho)), hr⟩
  refine ks_wpAt_execs_cons (ks_wpAt_Assign_Attr (wpAt_of_wpAny ?_) (by with_unfolding_all rfl))
  refine ESX.ldL ns4 (by rfl) (ESX.ldL ns4 (by rfl) ?_)
  refine at_store T X₄ hx₄ (fun h₅ tk₅ dx k₅ dn dne hx₅ hn₅ => ?_)
  refine wpAt_of_wpAny (wpAny_execs_nil ?_)
  have grow : s.heap.objs.size ≤ h₄.objs.size := by
    obtain ⟨o, es, ep, ho, hr⟩ := ns4
    exact Nat.le_of_lt (Heap.lt_size ho)
  exact hq h₅ tk₅ dx t1 ⟨fun b o hb e => k₅ b o hb (k₄ b o hb (Heap.get?_push_of_some _ (k₂ _ _ (kp _ _ e)))), hx₅, Nat.le_trans grow dn, dne, hn₅⟩
/-- a made error -/
structure AtMade (h h' : Heap) (e C d : Addr) (v : Value) : Prop where
  keep : ∀ b o, h.get? b = some o → h'.get? b = some o
  new : h.objs.size ≤ e
  obj : ∃ oe vs, h'.get? e = some oe ∧ oe.cls = .ref C ∧ oe.dict = some d ∧ oe.data = .fields vs ∧ vs[1]? = some .none
  dbig : h.objs.size ≤ d
  dne : d ≠ e
  ns : h'.Ns1 d (fun y => if y = "at" then some v else none)
theorem at_made (T : AtTxt prog K mg C fI) {v : Value} (X : K.In s.heap) (hlim : s.heap.NoLimit) (hg : s.heap.Ns mainGlobals mg) (hb : s.heap.Ns builtinsNs mb) (hbb : ∀ x : Str, x ≠ "__name__" → mb x = bootBuiltins x) (hroom : A.depth + 1 < recursionLimit)
    (hq : ∀ h' tk e d, AtMade s.heap h' e C d v → R (.ok (.ret (.ref e))) { s with heap := h', toks := tk }) :
    codeAny (model prog w) A (.call (.ref C) ⟨[v], []⟩) R s := by
  obtain ⟨nm, q, N, bs, bm, sn, sub, ab, col, dd, k0, k1, k2, k3, k5, hC, hbm, hal⟩ := T.cls
  obtain ⟨hp, g, dr, tk, os⟩ := s
  have k : ∀ b o, hp.get? b = some o → ((hp.push (kdv_tup [v])).push (excO C hp.objs.size)).get? b = some o := fun b o e => Heap.get?_push_of_some _ (Heap.get?_push_of_some _ e)
  have hget : ((hp.push (kdv_tup [v])).push (excO C hp.objs.size)).get? (hp.objs.size + 1) = some (excO C hp.objs.size) := by heap_get
  have hnx : K.lookup (hp.objs.size + 1) = none := by
    cases e : K.lookup (hp.objs.size + 1) with
    | none => rfl
    | some o =>
      have z : hp.get? (hp.objs.size + 1) = some o := X _ _ e
      exact absurd (Nat.lt_of_succ_lt (Heap.lt_size z)) (Nat.lt_irrefl _)
  refine call_own F.excBase_Exception (fun X => excTail_contains X bm hbm) (X _ _ hC) (looks_findIn X T.iC) (fun self => bind_fn X self T.tC) (one_size v) ?_
  refine at_init (mb := mb) (s := ⟨(hp.push (kdv_tup [v])).push (excO C hp.objs.size), g, dr, tk, os⟩) T (X.keeps k) (hlim.keeps k) (hg.keeps k) (hb.keeps k) hbb hget hnx ?_ fun h' tk' dx t1 ⟨k', hx, dn, dne, hns⟩ => ?_
  · show A.depth + 1 < recursionLimit
    exact hroom
  · have old : ∀ b o, hp.get? b = some o → h'.get? b = some o := fun b o e => k' b o (Nat.ne_of_lt (Nat.lt_succ_of_lt (Heap.lt_size e))) (k b o e)
    have z : hp.objs.size + 1 + 1 ≤ dx := by
      first
        | (simpa only [Heap.size_push] using dn)
        | exact dn
        | (have q := dn; rw [Heap.size_push, Heap.size_push] at q; exact q)
    exact ⟨rfl, hq h' tk' (hp.objs.size + 1) dx ⟨old, Nat.le_succ _, ⟨_, _, hx, rfl, rfl, rfl, rfl⟩, Nat.le_trans (Nat.le_trans (Nat.le_succ _) (Nat.le_succ _)) z, dne, hns⟩⟩
end
end Fw
namespace L2
open PySem PySem.Spec PyProof.Rows
theorem relO_at {v : V} {v' : Value} (r : RelV v v') (f : Str) : RelO (List.lookup f [(("at" : Str), v)]) (if f = "at" then some v' else none) := by
  by_cases hw : f = "at"
  · subst hw
    rw [if_pos rfl]
    have q : List.lookup ("at" : Str) [(("at" : Str), v)] = some v := by simp [List.lookup]
    rw [q]
    exact r
  · rw [if_neg hw]
    have qw : (f == ("at" : Str)) = false := by simpa using hw
    have q2 : List.lookup f [(("at" : Str), v)] = none := by simp [List.lookup, qw]
    rw [q2]
    trivial
section
variable {X : Cx} {C fI : Addr}
/-- C(e), C an error class -/
def tMkAt (C : Addr) (ta : TA) : St → Hp → XK → Prop := fun σ H Q => ta σ H fun vs H1 => ∃ v, vs = [v] ∧ ∀ d, H1 d = none → Q (.ref C) (some d) (upd H1 d (.xd [(("at" : Str), v)]))
theorem pmk_at {x : Str} {a : Expr} {ta : TA} {p pos : Pos} {k : Nat} (T : Fw.AtTxt X.prog X.K X.mg C fI) (gC : X.mg x = some (.ref C)) (hr : Room k X.A) (ha : PA X [a] ta) (hg : Gl X x) (hdb : (x == ("__debug__" : Str)) = false := by decide)
    (he : starEach (a :: []) X.env = (false, eval a X.env) :: starEach [] X.env := by rfl) (hpl : (backTo pos (starEach [] X.env)).any (·.1) = false := by rfl) :
    PMk X (.Call (.Name x p) [a] [] pos) (tMkAt C ta) := by
  intro pins s σ H Q I h
  refine wpAny_Call_Name_kw (ld_glob I hg gC ?_ hdb)
  refine PySem.W.callWith_K (h₀ := X.base) I.ok.mod.kin T.kC (thn (ha.run pos pins s σ H _ I h) fun us s1 hh => ?_) he hpl
  obtain ⟨vs, H1, I1, r1, v, ev, q1⟩ := hh
  subst ev
  refine ⟨I1.kIn, ?_⟩
  cases r1 with
  | cons rv rn =>
    rename_i v' us'
    cases rn
    show wpAny _ _ (call (.ref C) [v']) _ _ _
    have hlim := I1.nolimit
    obtain ⟨mb, hmb, hbb⟩ := I1.mod.blt
    have hgl := I1.mod.glob.keeps I1.bk
    have hbl := hmb.keeps I1.bk
    have KI := I1.kIn
    obtain ⟨hp, g, dr, tk, os⟩ := s1
    refine wpAny_call (Fw.at_made T KI hlim hgl hbl hbb (by have := hr.dp; omega) fun h' tk' e d M => ?_)
    show MkP X pins σ Q (.ref e) ⟨h', g, dr, tk', os⟩
    obtain ⟨oe, fv, hoe, hc, hd, hdat, h1⟩ := M.obj
    have hns := M.ns
    obtain ⟨G', g1, g2⟩ := restrict h' fun b => decide (b ≠ e)
    have gk : ∀ b, b ≠ e → G'.get? b = h'.get? b := fun b hb => g1 b (decide_eq_true hb)
    have ge : G'.get? e = none := g2 e (by simp)
    have old : ∀ b o, hp.get? b = some o → G'.get? b = some o := fun b o q => (gk b (Nat.ne_of_lt (Nat.lt_of_lt_of_le (Heap.lt_size q) M.new))).trans (M.keep b o q)
    have ob : ObjOk X.prog X.w (upd H1 d (.xd [(("at" : Str), v)])) G' d (.xd [(("at" : Str), v)]) :=
      ⟨_, hns.at (fun o q => (gk d M.dne).trans q), fun f => relO_at rv f⟩
    have J : Inv X pins σ (upd H1 d (.xd [(("at" : Str), v)])) ⟨G', g, dr, tk', os⟩ := I1.laid (t' := tk') old M.dbig ob
    refine ⟨e, oe, fv, ⟨G', g, dr, tk', os⟩, _, .ref C, some d, rfl, J, fun b o q => ?_, ge, hoe, ⟨hc, hd⟩, hdat, h1, ?_, rfl, I1.bare, raises_own T.exC T.tyC, q1 d (I1.hok.fresh M.dbig)⟩
    · by_cases hb : b = e
      · have q' : G'.get? b = some o := q
        rw [hb, ge] at q'; cases q'
      · exact (gk b hb).symm.trans q
    · rw [upd_ne (Ne.symm M.dne)]
      exact I1.hok.fresh M.new
/-- raise C(e) -/
def tRaiseAt (C : Addr) (W : WX) (ta : TA) : TS := fun _ σ H => tMkAt C ta σ H fun cls d H' => W cls d σ H'
theorem ps_raiseAt {x : Str} {a : Expr} {ta : TA} {W : WX} {p pos pos2 : Pos} {k : Nat} (hc : X.calm = true) (T : Fw.AtTxt X.prog X.K X.mg C fI) (gC : X.mg x = some (.ref C)) (hr : Room k X.A) (tk : Takes X W) (ha : PA X [a] ta) (hg : Gl X x) (hdb : (x == ("__debug__" : Str)) = false := by decide)
    (he : starEach (a :: []) X.env = (false, eval a X.env) :: starEach [] X.env := by rfl) (hpl : (backTo pos (starEach [] X.env)).any (·.1) = false := by rfl) :
    PS X (.Raise (some (.Call (.Name x p) [a] [] pos)) none pos2) (tRaiseAt C W ta) := ps_raise hc tk (pmk_at T gC hr ha hg hdb he hpl)
end
end L2
/-! try: body / except X as n: .. (several clauses, each with a name, nothing else flies) -/
namespace L2
open PySem PySem.Spec PyProof.Rows
/-- the ends behind a named clause: the name's slot is emptied -/
def unName (i : Nat) (D : Ends) : Ends where
  nx := fun σ H => D.nx (σ.set i none) H
  rt := D.rt
  bk := fun σ H => D.bk (σ.set i none) H
  ct := fun σ H => D.ct (σ.set i none) H
/-- what the clauses wish of an error of the body -/
def wAll (K : PySem.W.Frag) (i : Nat) (D : Ends) : List (Value × (Addr → Value → Option Addr → TS)) → WX
  | [] => fun _ _ _ _ => False
  | (c, ts) :: r => fun cls d σ H => ∃ b, PySem.W.exmOne K cls c = some b ∧ (b = true → ∀ a, H a = none → ts a cls d (unName i D) (σ.set i (some (.ref a))) H) ∧ (b = false → wAll K i D r cls d σ H)
inductive HdAll (X : Cx) (n : Str) : List ExceptHandler → List (Value × (Addr → Value → Option Addr → TS)) → Prop
  | nil : HdAll X n [] []
  | cons {x : Str} {c : Value} {ts : Addr → Value → Option Addr → TS} {b0 : Stmt} {suite : List Stmt} {np pos' : Pos} {hds : List ExceptHandler} {l : List (Value × (Addr → Value → Option Addr → TS))} (hc : Names X x c)
      (hsu : ∀ (a : Addr) (oe : Obj) (cls : Value) (d : Option Addr) (pn : List (Addr × Obj)), Zc cls d oe → (∃ vs, oe.data = .fields vs) → PSs (X.suite a ((a, oe) :: pn)) (b0 :: suite) (ts a cls d)) (r : HdAll X n hds l) :
      HdAll X n (.ExceptHandler (some (.Name x np)) (some n) (b0 :: suite) pos' :: hds) ((c, ts) :: l)
section
variable {X : Cx} {pins : List (Addr × Obj)} {σ : St} {H : Hp} {sI : Shared} {B : Heap} {a : Addr} {cls : Value} {d : Option Addr} {i : Nat} {n : Str} {D : Ends}
/-- an error that flies over this frame, among our own objects -/
structure Aloft (X : Cx) (pins : List (Addr × Obj)) (σ : St) (H : Hp) (a : Addr) (cls : Value) (d : Option Addr) (s : Shared) : Prop where
  ex : ∃ (B : Heap) (sI : Shared), Inv X pins σ H sI ∧ (∀ b o, sI.heap.get? b = some o → b ∉ frs X.stack → B.get? b = some o) ∧ sI.heap.UpToSlots s.heap ∧
    HandSPX.FlyingZ B (X.env :: X.outer) a (Zc cls d) s.heap ∧ s.os = sI.os ∧ AllBare s.gens
  na : H a = none
/-- on the ground -/
theorem Aloft.down {s : Shared} (x : Aloft X pins σ H a cls d s) : Inv X pins σ H s := by
  obtain ⟨⟨B, sI, J, nb, up, fl, os, ag⟩, _⟩ := x
  exact J.landed nb fl.1 up os ag
theorem Aloft.inSuite {s : Shared} (x : Aloft X pins σ H a cls d s) (hf : X.env.frame = some X.env.locals) : ∃ oe, Zc cls d oe ∧ (∃ vs, oe.data = .fields vs) ∧ s.heap.get? a = some oe ∧ Inv (X.suite a ((a, oe) :: (X.pn ++ pins))) [] σ H s := by
  have J := x.down
  obtain ⟨⟨B, sI, _, nb, up, fl, os, ag⟩, na⟩ := x
  obtain ⟨oe, vs, he, hz, hd⟩ := fl.there
  have nfr : a ∉ frs (X.env :: X.outer) := fun hm => by
    obtain ⟨_, o', e', hnf⟩ := fl.2.2.1.mem hm
    rw [he] at e'
    cases e'
    exact hnf _ hd
  refine ⟨oe, hz, ⟨vs, hd⟩, he, J.suite he hd na (fun z => nfr ?_) fun hm => nfr ?_⟩
  · exact List.mem_filterMap.mpr ⟨X.env, List.mem_cons_self, by rw [hf, z]⟩
  · obtain ⟨e, h1, h2⟩ := List.mem_filterMap.mp hm
    exact List.mem_filterMap.mpr ⟨e, List.mem_cons_of_mem _ h1, h2⟩
theorem Aloft.again {s : Shared} {A : Around} {E : Value → Shared → Prop} {M : Model} {Q : Unit → Shared → Prop} (x : Aloft X pins σ H a cls d s) (h : ∀ s', Aloft X pins σ H a cls d s' → Q () s') : wpAny M A (setFlight (.ref a) none) Q E s := by
  obtain ⟨⟨B, sI, J, nb, up, fl, os, ag⟩, na⟩ := x
  exact HandSPX.lands_againZ fl fun h4 fl4 up4 => h _ ⟨⟨B, sI, J, nb, up.trans up4, fl4, os, ag⟩, na⟩
theorem hd_all (hf : X.env.frame = some X.env.locals) (hN : X.N.Nodup) (hi : X.N[i]? = some n) (hln : X.env.kindOf n = some .local) {hds : List ExceptHandler} {l : List (Value × (Addr → Value → Option Addr → TS))} (hh : HdAll X n hds l) :
    ∀ {s : Shared}, Aloft X pins σ H a cls d s → wAll X.K i D l cls d σ H → wpAny (model X.prog X.w) X.A (handleBy (.ref a) X.env hds) (SP X pins D) X.xe s := by
  induction hh with
  | nil => exact fun _ w => w.elim
  | @cons x c ts b0 suite np pos' hds' l' hc hsu r ih =>
    intro s fly w
    obtain ⟨b, hb, yes, no⟩ := w
    have ok := fly.down.ok
    obtain ⟨oe, hz, _, he, S⟩ := fly.inSuite hf
    refine wpAny_handleBy_cons (codeAny_handlers_test ?_) (by intro q; cases q)
    have look : PySem.W.Looks (model X.prog X.w) s.heap (typeOf (.ref a)) cls := fun A Q E s k q => wpAny_typeOf_ref (k _ _ he) (by rw [hz.1]; exact q)
    have ans := PySem.W.exm_one (M := model X.prog X.w) fly.down.kIn look hb
    have named : ∀ {Q : Value → Shared → Prop} {E : Value → Shared → Prop}, Q c s → wpAny (model X.prog X.w) (X.A.mark (some (.ref a))) (eval (.Name x np) X.env) Q E s := fun {Q E} q => by
      rcases hc with ⟨hg, hdbg, hm | ⟨hm, hv, hnn⟩⟩
      · exact ld_glob (X := X.suite a ((a, oe) :: (X.pn ++ pins))) S hg hm q hdbg
      · exact ld_blt (X := X.suite a ((a, oe) :: (X.pn ++ pins))) S hg hm hv q hnn hdbg
    refine named (ans.here ?_)
    cases b with
    | false => exact ih fly (no rfl)
    | true =>
      refine codeAny_handlers_suite_as (fly.again fun s4 fly4 => ?_)
      obtain ⟨oe4, hz4, hd4, _, S4⟩ := fly4.inSuite hf
      refine store_ok (X := X.suite a ((a, oe4) :: (X.pn ++ pins))) (v := .ref a) S4 hN hi (.inl hln) rfl (fun s5 S5 => ?_) (.inr hln)
      refine wpAny_mono ((hsu a oe4 cls d (X.pn ++ pins) hz4 hd4).run [] s5 _ H _ S5 (yes rfl a fly.na)) (fun f s6 hsp => ?_) fun _ _ z => z.elim
      have shut : ∀ {τ : St} {G : Hp} {Q : Shared → Prop}, Inv (X.suite a ((a, oe4) :: (X.pn ++ pins))) [] τ G s6 → (∀ s7, Inv X pins (τ.set i none) G s7 → Q s7) →
          wpAny (model X.prog X.w) X.A (do bindName X.env n .none; unbindBehindTheSuite X.env n pos') (fun _ s7 => Q s7) X.xe s6 := fun {τ G Q} S6 hq => gone_ok (S6.unsuite ok) hN hi hln hq
      cases f with
      | ret u => exact let ⟨v, τ, G, S6, r6, q6⟩ := hsp; shut S6 fun s7 J7 => ⟨v, _, G, J7, r6, q6⟩
      | next => exact let ⟨τ, G, S6, q6⟩ := hsp; shut S6 fun s7 J7 => ⟨_, G, J7, q6⟩
      | brk => exact let ⟨τ, G, S6, q6⟩ := hsp; shut S6 fun s7 J7 => ⟨_, G, J7, q6⟩
      | cont => exact let ⟨τ, G, S6, q6⟩ := hsp; shut S6 fun s7 J7 => ⟨_, G, J7, q6⟩
theorem ps_try_all {body : List Stmt} {h0 : ExceptHandler} {hds : List ExceptHandler} {l : List (Value × (Addr → Value → Option Addr → TS))} {pos : Pos} {tb : WX → TS} (hs : X.stack = X.env :: X.outer) (hf : X.env.frame = some X.env.locals) (hN : X.N.Nodup) (hi : X.N[i]? = some n) (hln : X.env.kindOf n = some .local)
    (hb : ∀ (W : WX) (pn : List (Addr × Obj)) (xe : Value → Shared → Prop), Takes (X.tr pn xe) W → PassesOwn (model X.prog X.w) X.A X.env xe → PSs (X.tr pn xe) body (tb W)) (hh : HdAll X n (h0 :: hds) l) :
    PS X (.Try body (h0 :: hds) [] [] pos) (fun D σ H => tb (wAll X.K i D l) D σ H) := by
  refine ⟨fun pins s σ H D I h => ?_⟩
  have ok := I.ok
  have frames : X.A.frames = some (X.env :: X.outer) := by rw [ok.frames, hs]
  refine wpAny_Try_except ?_
  let xe' : Value → Shared → Prop := fun e s1 => wpAny (model X.prog X.w) X.A (noteFrame e X.env) (fun _ s2 => wpAny (model X.prog X.w) X.A (setFlight e none) (fun _ s3 => wpAny (model X.prog X.w) X.A (handleBy e X.env (h0 :: hds)) (SP X pins D) X.xe s3) X.xe s2) X.xe s1
  have caught : Takes (X.tr (X.pn ++ pins) xe') (wAll X.K i D l) := fun u s' xx => by
    obtain ⟨a, B, sI, pins', σ', H', cls, d, eu, J', nb, up, sky, na, os, ag, w⟩ := xx
    subst eu
    have J : Inv X pins σ' H' sI := J'.ofTry ok
    have sky' : Sky B (X.env :: X.outer) a (Zc cls d) X.env.locals s'.heap := by rw [← hs]; exact sky
    exact Sky.land Zc.steady frames hf sky' fun h3 fl3 up3 => hd_all hf hN hi hln hh (s := { s' with heap := h3 }) ⟨⟨B, sI, J, nb, up.trans up3, fl3, os, ag⟩, na⟩ w
  refine wpAny_mono ((hb _ _ xe' caught PassesOwn.looking).run [] s σ H D (I.toTry _) h) (fun f s1 hsp => ?_) fun e s1 he => he
  cases f with
  | next => exact let ⟨τ, G, J, q⟩ := hsp; wpAny_execs_nil ⟨τ, G, J.ofTry ok, q⟩
  | brk => exact let ⟨τ, G, J, q⟩ := hsp; ⟨τ, G, J.ofTry ok, q⟩
  | cont => exact let ⟨τ, G, J, q⟩ := hsp; ⟨τ, G, J.ofTry ok, q⟩
  | ret u => exact let ⟨v, τ, G, J, r, q⟩ := hsp; ⟨v, τ, G, J.ofTry ok, r, q⟩
end
end L2
/-! lambdas without parameters, held as values: made, handed on, called from any frame above the one whose cells they captured -/
namespace Fw
open PySem PySem.Spec PyProof.Rows L2 LamX
/-- what a lambda is made of -/
structure Lm where
  qual : Str
  params : Arguments
  body : Expr
  scope : Scope
  cl : List (Str × Addr)
  c : Addr
/-- the object at f is the lambda F -/
def LamO (f : Addr) (F : Lm) : HO := .ext fun h => ∃ pm ctv : Value, h.get? f = some (PySem.W.kla_obj "<lambda>" F.qual F.params F.body F.scope F.cl pm F.c ctv)
theorem lamO_at {P : Program} {w : World} {H : Hp} {h : Heap} {f : Addr} {F : Lm} (hok : HOk P w H h) (e : H f = some (LamO f F)) : ∃ pm ctv : Value, h.get? f = some (PySem.W.kla_obj "<lambda>" F.qual F.params F.body F.scope F.cl pm F.c ctv) := by
  have x : ObjOk P w H h f (.ext fun h => ∃ pm ctv : Value, h.get? f = some (PySem.W.kla_obj "<lambda>" F.qual F.params F.body F.scope F.cl pm F.c ctv)) := hok f _ e
  exact x.1
theorem code_at {P : Program} {w : World} {H : Hp} {h : Heap} {c : Addr} {q : Str} (hok : HOk P w H h) (e : H c = some (CodeO c q)) : h.CodeRec (.ref c) q := by
  have x : ObjOk P w H h c (.ext fun h => ∃ (oc : Obj) (vs : Array Value) (t : Tok), h.get? c = some oc ∧ oc.data = .fields vs ∧ vs[1]? = some (.str q t)) := hok c _ e
  obtain ⟨oc, vs, t, e1, e2, e3⟩ := x.1
  exact ⟨c, oc, vs, t, rfl, e1, e2, e3⟩
section
variable {X : Cx} {pins : List (Addr × Obj)} {σ : L2.St} {H : Hp} {s : Shared}
theorem inv_lam {F : Lm} {t' : Nat} {pm ctv : Value} (I : Inv X pins σ H s) :
    Inv X pins σ (upd H s.heap.objs.size (LamO s.heap.objs.size F)) { s with heap := s.heap.push (PySem.W.kla_obj "<lambda>" F.qual F.params F.body F.scope F.cl pm F.c ctv), toks := t' } := by
  have at_ : (s.heap.push (PySem.W.kla_obj "<lambda>" F.qual F.params F.body F.scope F.cl pm F.c ctv)).get? s.heap.objs.size = some (PySem.W.kla_obj "<lambda>" F.qual F.params F.body F.scope F.cl pm F.c ctv) := Heap.get?_push_size _ rfl
  exact I.laid (a := s.heap.objs.size) (fun b u e => Heap.get?_push_of_some _ e) (Nat.le_refl _) ⟨⟨pm, ctv, at_⟩, ⟨_, at_⟩, fun h1 h2 ⟨p, t, z⟩ st => ⟨p, t, st _ z⟩⟩
/-- eval of a lambda -/
theorem lam_made {q : Str} {c P : Addr} {params : Arguments} {body : Expr} {scope : Scope} {pos : Pos} {E : Value → Shared → Prop} {Q : Value → Shared → Prop} (I : Inv X pins σ H s) (TB : TabB X.base X.mg c P) (hcode : X.env.code = .ref c) (hq : X.env.qual ++ "<lambda>" = q)
    (hT : TabS H P q) (hdef : defaultsOf params X.env = ([], [])) (hfree : ∀ y ∈ scope.names, y.2 = .free → ∃ c, X.env.cells.lookup y.1 = some c)
    (h : ∀ (f c' : Addr) (H1 : Hp) (s' : Shared), Inv X pins σ H1 s' → ExtN H H1 → TabS H1 P q → H f = none → H1 f = some (LamO f ⟨q, params, body, scope, cloFrom X.env.cells scope.names [], c'⟩) → H1 c' = some (CodeO c' q) → Q (.ref f) s') :
    wpAny (model X.prog X.w) X.A (eval (.Lambda params body scope pos) X.env) Q E s := by
  subst hq
  obtain ⟨ps, hP, ht, ha⟩ := hT
  refine PySem.W.kla_eval hdef ?_
  have bP : s.heap.BuiltinsAt X.mg P := TB.bm.keeps I.bk
  have hP' : s.heap.get? P = some { cls := .none, data := .fields ps } := I.hok P _ hP
  cases hc : codeAmong pos ps.toList with
  | some cv =>
    obtain ⟨c', e, hco⟩ := ha pos cv hc
    subst e
    refine PySem.W.kla_makeFunctionHit (mg := X.mg) (c := c) (P := P) (ps := ps) (closure_ok hfree) I.ok.glob (I.mod.glob.keeps I.bk) hcode (TB.code.keeps I.bk) hP' ht hc bP fun ctv h' tk hx _ => ?_
    have I1 : Inv X pins σ H { s with heap := h', toks := tk } := I.kept hx
    have nF : H h'.objs.size = none := I1.hok.fresh (Nat.le_refl _)
    have keep : ∀ b o, H b = some o → upd H h'.objs.size (LamO h'.objs.size ⟨X.env.qual ++ "<lambda>", params, body, scope, cloFrom X.env.cells scope.names [], c'⟩) b = some o := fun b o e => (upd_ne (ne_of_none e nF)).trans e
    exact h h'.objs.size c' _ _ (inv_lam (F := ⟨X.env.qual ++ "<lambda>", params, body, scope, cloFrom X.env.cells scope.names [], c'⟩) (t' := tk) (pm := (X.mg "__name__").getD .none) (ctv := ctv) I1)
      (ExtN.of keep) (TabS.ext ⟨ps, hP, ht, ha⟩ keep) nF upd_same (keep _ _ hco)
  | none =>
    refine PySem.W.kla_makeFunction (mg := X.mg) (c := c) (P := P) (ps := ps) (closure_ok hfree) I.ok.glob (I.mod.glob.keeps I.bk) hcode (TB.code.keeps I.bk) hP' ht hc TB.gP bP fun c' ctv h' tk hx hge hlt hrec htb => ?_
    obtain ⟨c2, oc, vs, t, e2, hoc, hd, hv⟩ := hrec
    cases e2
    have nC : H c' = none := I.hok.fresh hge
    have I1 := inv_table (t' := tk) (more := #[rawInt pos.line, rawInt pos.col, .ref c']) (h' := h') I hP (fun b o hb e => hx b o hb e) htb hge ⟨oc, vs, t, hoc, hd, hv⟩
    have grown : ExtN H (upd (upd H P (.tbl (ps ++ #[rawInt pos.line, rawInt pos.col, .ref c']))) c' (CodeO c' (X.env.qual ++ "<lambda>"))) := fun b o e n => by
      rw [upd_ne (ne_of_none e nC), upd_ne (fun z => n ps (Option.some.inj (e.symm.trans (by rw [z]; exact hP))))]
      exact e
    have listed : (ps ++ #[rawInt pos.line, rawInt pos.col, .ref c']).toList = ps.toList ++ [rawInt pos.line, rawInt pos.col, .ref c'] := by simp
    have T1 : TabS (upd (upd H P (.tbl (ps ++ #[rawInt pos.line, rawInt pos.col, .ref c']))) c' (CodeO c' (X.env.qual ++ "<lambda>"))) P (X.env.qual ++ "<lambda>") := by
      refine ⟨_, (upd_ne (ne_of_none hP nC)).trans upd_same, by rw [listed]; exact PySem.TriplesOk_snoc _ _ _ _ ht, fun p' cv hcv => ?_⟩
      rw [listed] at hcv
      rcases among_app _ ht hcv with z | z
      · obtain ⟨c0, e1, e2⟩ := ha p' cv z
        exact ⟨c0, e1, grown _ _ e2 codeO_ne⟩
      · exact ⟨c', z, upd_same⟩
    have nF := I1.hok.fresh (Nat.le_refl _)
    have keep : ∀ b o, (upd (upd H P (.tbl (ps ++ #[rawInt pos.line, rawInt pos.col, .ref c']))) c' (CodeO c' (X.env.qual ++ "<lambda>"))) b = some o →
        upd (upd (upd H P (.tbl (ps ++ #[rawInt pos.line, rawInt pos.col, .ref c']))) c' (CodeO c' (X.env.qual ++ "<lambda>"))) h'.objs.size (LamO h'.objs.size ⟨X.env.qual ++ "<lambda>", params, body, scope, cloFrom X.env.cells scope.names [], c'⟩) b = some o :=
      fun b o e => (upd_ne (ne_of_none e nF)).trans e
    exact h h'.objs.size c' _ _ (inv_lam (F := ⟨X.env.qual ++ "<lambda>", params, body, scope, cloFrom X.env.cells scope.names [], c'⟩) (t' := tk) (pm := (X.mg "__name__").getD .none) (ctv := ctv) I1)
      (fun b o e n => keep b o (grown b o e n)) (T1.ext keep) (I.hok.fresh (Nat.le_trans hge (Nat.le_of_lt hlt))) upd_same (keep _ _ upd_same)
end
/-- the reading of a lambda: the table at P grows, all else stays -/
def tLamb (P : Addr) (q : Str) (mk : Addr → Lm) : TE := fun σ H Q => TabS H P q ∧ ∀ (f c' : Addr) (H1 : Hp), ExtN H H1 → TabS H1 P q → H f = none → H1 f = some (LamO f (mk c')) → H1 c' = some (CodeO c' q) → Q (.ref f) H1
theorem pe_lamb {X : Cx} {q : Str} {c P : Addr} {params : Arguments} {body : Expr} {scope : Scope} {pos : Pos} (TB : TabB X.base X.mg c P) (hcode : X.env.code = .ref c) (hq : X.env.qual ++ "<lambda>" = q) (L : LamS X.env.scope scope) (hdef : defaultsOf params X.env = ([], []) := by rfl) :
    PE X (.Lambda params body scope pos) (tLamb P q fun c' => ⟨q, params, body, scope, cloFrom X.env.cells scope.names [], c'⟩) :=
  ⟨fun pins s σ H Q I h => lam_made I TB hcode hq h.1 hdef (L.has I.ok) fun f c' H1 s' I1 eN T1 hf h1 h2 => ⟨.ref f, H1, I1, rfl, h.2 f c' H1 eN T1 hf h1 h2⟩⟩
/-! ### its body, entered anywhere above the ground B in which its cells stand -/
/-- the context of its body -/
def lamK (P : Program) (w : World) (K : PySem.W.Frag) (mg : Str → Option Value) (B : Heap) (N : List Str) (F : Lm) (f : Addr) (A : Around) (outer : List Env) (s : Shared) (H : Hp) (E : XK) : Cx where
  prog := P
  w := w
  K := K
  mg := mg
  base := B
  A := A.deeper (PySem.W.envX F.qual F.scope s.heap.objs.size f (.ref F.c) F.cl)
  N := N
  s_0 := s
  H_0 := H
  env := PySem.W.envX F.qual F.scope s.heap.objs.size f (.ref F.c) F.cl
  outer := outer
  stack := PySem.W.envX F.qual F.scope s.heap.objs.size f (.ref F.c) F.cl :: outer
  ex := []
  fn := fun _ => false
  calm := true
  pn := []
  xe := fun e s' => wpAny (model P w) (A.deeper (PySem.W.envX F.qual F.scope s.heap.objs.size f (.ref F.c) F.cl)) (leaving (PySem.W.envX F.qual F.scope s.heap.objs.size f (.ref F.c) F.cl) e) (fun _ s'' => L2.CX P w outer H s E e s'') (fun e' s'' => L2.CX P w outer H s E e' s'') s'
/-- the lambda's own scope: captured names and globals alone -/
structure LamP (scope : Scope) : Prop where
  kind : scope.kind = .function
  co : scope.isCoroutine = false
  gen : scope.isGenerator = false
  own : ∀ y ∈ scope.names, y.2 ≠ .local ∧ y.2 ≠ .cell
theorem lamP_by {scope : Scope} (h : (decide (scope.kind = .function) && !scope.isCoroutine && !scope.isGenerator && scope.names.all fun y => !decide (y.2 = .local) && !decide (y.2 = .cell)) = true) : LamP scope := by
  simp only [Bool.and_eq_true, Bool.not_eq_true', decide_eq_true_eq, decide_eq_false_iff_not, List.all_eq_true] at h
  obtain ⟨⟨⟨h1, h2⟩, h3⟩, h4⟩ := h
  exact ⟨h1, h2, h3, h4⟩
/-- its cells stand in B with the values that σ tells -/
structure CellsIn (B : Heap) (N : List Str) (σ : L2.St) (F : Lm) : Prop where
  has : ∀ y, F.scope.names.lookup y = some .free → ∃ c u, F.cl.lookup y = some c ∧ B.IsCell c (some u) ∧ ∀ (i : Nat) (v : V), N[i]? = some y → σ[i]? = some (some v) → RelV v u
  inj : ∀ y z c, F.cl.lookup y = some c → F.cl.lookup z = some c → y = z
  all : ∀ y c, F.cl.lookup y = some c → ∃ u, B.IsCell c u
  len : σ.length = N.length
section
variable {P : Program} {w : World} {K : PySem.W.Frag} {mg : Str → Option Value} {B : Heap} {N : List Str} {F : Lm} {f : Addr} {A : Around} {outer : List Env} {s : Shared} {H : Hp} {E : XK} {σ : L2.St}
theorem lamK_start {h1 : Heap} {tk : Nat} (e0 : Env0 P w K mg B A outer s H) (hd : A.handled = none) (L : LamP F.scope) (C : CellsIn B N σ F) (hns : h1.Ns s.heap.objs.size fun y => ([] : List (Str × Value)).reverse.lookup y) (kp : ∀ b o, s.heap.get? b = some o → h1.get? b = some o) :
    Inv (lamK P w K mg B N F f A outer s H E) [] σ H { s with heap := h1, toks := tk } := by
  have none_ex : ∀ b : Addr, b ∉ (lamK P w K mg B N F f A outer s H E).ex := fun b z => absurd (show b ∈ ([] : List Addr) from z) (by simp)
  have cellK : ∀ {c : Addr} {v : Option Value}, B.IsCell c v → h1.IsCell c v := fun {c v} ⟨o, ho, hd⟩ => ⟨o, kp _ _ (e0.bs _ _ ho).1, hd⟩
  have cellF : ∀ {c : Addr} {v : Option Value}, B.IsCell c v → H c = none := fun {c v} ⟨o, ho, hd⟩ => (e0.bs _ _ ho).2
  refine ⟨⟨e0.mod, L.kind, rfl, rfl, Nat.le_refl _, C.inj, fun y hy => ?_, fun y c z _ => ?_, fun _ => hd, Around.frames_deeper e0.frames, .inr ⟨rfl, rfl⟩, fun b z => absurd z (none_ex b), e0.bs, e0.bsz, fun b _ _ => none_ex b, fun b z => absurd z (none_ex b), e0.funs, e0.frf⟩,
    rfl, e0.bare, Un.kept kp, ⟨_, hns, fun i y v e1 e2 e3 => ?_⟩, fun y c e => ?_, e0.hok.fresh (Nat.le_refl _), fun y c e => ?_, fun q hq => absurd (show q ∈ ([] : List (Addr × Obj)) ++ [] from hq) (by simp), e0.hok.kept kp, C.len⟩
  · have hy : F.scope.names.lookup y = some .cell ∨ F.scope.names.lookup y = some .free := hy
    rcases hy with hy | hy
    · exact absurd rfl (L.own _ (PySem.mem_of_lookup hy)).2
    · obtain ⟨c, _, e, _⟩ := C.has y hy
      exact ⟨c, e⟩
  · have z : false = true := z
    cases z
  · have e3 : Vis F.scope y := e3
    rcases e3 with k | k | k
    · exact absurd rfl (L.own _ (PySem.mem_of_lookup k)).1
    · exact absurd rfl (L.own _ (PySem.mem_of_lookup k)).2
    · obtain ⟨c, u, h2, h3, h4⟩ := C.has y k
      exact ⟨u, h4 i v e1 e2, .inr ⟨.inr k, c, h2, cellK h3⟩⟩
  · obtain ⟨u, z⟩ := C.all y c e
    exact ⟨u, cellK z⟩
  · obtain ⟨u, z⟩ := C.all y c e
    exact cellF z
/-- a call of the value at f, from any frame above B: what it hands back, what it lets out -/
def Work (P : Program) (w : World) (K : PySem.W.Frag) (mg : Str → Option Value) (B : Heap) (k : Nat) (f : Addr) (H : Hp) (Q : VK) (E : XK) : Prop :=
  ∀ (A : Around) (outer : List Env) (s : Shared), Room k A → Env0 P w K mg B A outer s H → codeAny (model P w) A (.call (.ref f) ⟨[], []⟩) (CR (L2.CX P w) outer P w H s Q E) s
theorem lam_work {k : Nat} {Q : VK} {tb : TE} (L : LamP F.scope) (C : CellsIn B N σ F) (hf : H f = some (LamO f F)) (hc : H F.c = some (CodeO F.c F.qual))
    (hbind : ∀ pm ctv : Value, bindArgs (PySem.W.kla_fn "<lambda>" F.qual F.params F.body F.scope F.cl pm (.ref F.c) ctv) ⟨[], []⟩ = pure [])
    (hbody : ∀ (A : Around) (outer : List Env) (s : Shared), Room k (A.deeper (PySem.W.envX F.qual F.scope s.heap.objs.size f (.ref F.c) F.cl)) → PE (lamK P w K mg B N F f A outer s H E) F.body tb)
    (ht : tb σ H Q) : Work P w K mg B (k + 1) f H Q E := by
  intro A outer s hr e0
  obtain ⟨pm, ctv, ho⟩ := lamO_at e0.hok hf
  have lim : s.heap.NoLimit := e0.mod.nolimit.keeps fun b o e => (e0.bs b o e).1
  refine PySem.W.kla_callFunE hr.depth ho rfl L.co L.gen rfl (code_at e0.hok hc) ?_
  rw [hbind]
  refine wpAny_pure (wpAny_newFunctionEnv (fun y hy => (L.own y hy).2) (fun y hy => absurd hy (by simp)) (fun h1 hns hsb => ⟨lim.fresh _ hsb, ?_⟩) L.kind)
  have kp : ∀ b o, s.heap.get? b = some o → h1.get? b = some o := fun b o e => hsb.extBut b o (Nat.ne_of_lt (Heap.lt_size e)) (Heap.get?_push_of_some _ e)
  have J := lamK_start (f := f) (E := E) (tk := s.toks + ([] : List (Str × Value)).length) e0 hr.hd L C hns kp
  refine PySem.W.kla_codeExpr (wpAny_mono ((hbody A outer s (hr.deeper _)).run [] _ σ H Q J ht) (fun v s' hq => ?_) fun e s' hq => hq)
  obtain ⟨w', H', J', rv, q⟩ := hq
  exact ⟨w', H', J'.os, J'.bare, J'.base, J'.hok, rv, q⟩
end
/-- x(), x a name that holds a lambda -/
def tWork (P : Program) (w : World) (K : PySem.W.Frag) (mg : Str → Option Value) (B : Heap) (k i : Nat) (E : XK) : TE := fun σ H Q => ∃ (f : Addr) (F : Lm), σ[i]? = some (some (.ref f)) ∧ H f = some (LamO f F) ∧ Work P w K mg B k f H Q E
theorem pe_work {X : Cx} {k i : Nat} {x : Str} {p1 p2 : Pos} {E : XK} (hN : X.N[i]? = some x) (hv : Vis X.env.scope x) (hr : Room k X.A) (hx : Passes (L2.CX X.prog X.w) X E) (hd : (x == ("__debug__" : Str)) = false := by decide) (hcd : (x == ("__classdict__" : Str)) = false := by decide) :
    PE X (.Call (.Name x p1) [] [] p2) (tWork X.prog X.w X.K X.mg X.base k i E) := by
  refine ⟨fun pins s σ H Q I h => ?_⟩
  obtain ⟨f, F, hs, hf, hw⟩ := h
  refine wpAny_Call_Name_kw (thn ((pe_var (pos := p1) (i := i) hN hv hd hcd).run pins s σ H (fun v H1 => v = .ref f ∧ H1 = H) I ⟨.ref f, hs, rfl, rfl⟩) fun u s1 ⟨v, H1, I1, r1, ev, eH⟩ => ?_)
  subst ev
  rw [eH] at I1
  obtain rfl : u = Value.ref f := r1
  obtain ⟨pm, ctv, ho⟩ := lamO_at I1.hok hf
  refine PySem.W.callWith_F0 ⟨_, _, _, _, ho⟩ (wpAny_call (codeAny_mono (hw X.A X.stack s1 hr I1.env0) fun r s' hq => ?_))
  cases r with
  | error e => exact hx pins σ H s1 e s' I1 hq
  | ok fl =>
    cases fl with
    | ret u => exact I1.after hq
    | next => exact False.elim hq
    | brk => exact False.elim hq
    | cont => exact False.elim hq
end Fw
/-! a list comprehension whose tests and element are read where the state at its start is known -/
namespace Fw
open PySem PySem.Spec PyProof.Rows L2
section
variable {X : Cx} {elt tg iter : Expr} {ifs : List Expr} {scope : Scope} {own : List (Str × Nat)} {g : TG}
/-- what stands between two turns: the block's state, the iterator at turn i, the word W with its measure n -/
def Mid (X : Cx) (s3 : Shared) (H3 : Hp) (scope : Scope) (ce : Env) (fp : List Addr) (tn : Nat → Heap → Prop) (ws : L2.St) (W : Nat → Nat → Hp → Prop) (n : Nat) (s : Shared) : Prop :=
  ∃ i H, Inv (X.blk s3 H3 scope ce fp) [] ws H s ∧ tn i s.heap ∧ (∀ b ∈ fp, H b = none) ∧ W i n H
/-- the records of the iterator are the block's own -/
theorem own_rec {s3 s : Shared} {H3 H : Hp} {ce : Env} {fp : List Addr} {ws : L2.St} (I : Inv (X.blk s3 H3 scope ce fp) [] ws H s) (hn : ∀ b ∈ fp, H b = none) : ∀ b ∈ fp, FpOk (X.blk s3 H3 scope ce fp) [] H b := fun b hb =>
  ⟨hn b hb, (I.ok.exf b hb).1, I.ok.exfs b hb, .inl hb, (I.ok.exf b hb).2, fun p hp => absurd (show p ∈ ([] : List (Addr × Obj)) ++ [] from hp) (by simp)⟩
theorem lc_turns {s3 : Shared} {H3 : Hp} {ce : Env} {fp : List Addr} {tn : Nat → Heap → Prop} {J : It} {it D : Addr} {pos : Pos} {vs : List Nat} {σ : L2.St} {tt : TT} {te : TE} {W : Nat → Nat → Hp → Prop} {R : Result → Shared → Prop} {Qd : Hp → Prop} (hc : X.calm = true)
    (T : Turn X.prog X.w X.K tg J fp it tn) (pg : PG (X.blk s3 H3 scope ce fp) tg g) (pt : PTs (X.blk s3 H3 scope ce fp) ifs tt) (pe : PE (X.blk s3 H3 scope ce fp) elt te)
    (turn : ∀ i m H, W i m H → (J.stop i H ∧ Qd H) ∨ (J.go i H ∧ ∃ Nx : Hp → Prop, (∀ H', Nx H' → ∃ m', m' < m ∧ W (i + 1) m' H') ∧ ∀ x H', J.yld i H x H' → g x (wipe σ vs) H' fun σ2 H2 => wipe σ2 vs = wipe σ vs ∧ tt σ2 H2 fun b H3 =>
      if b = true then te σ2 H3 fun y H4 => ∃ acc, H4 D = some (.lst acc) ∧ acc.length < sizeLine ∧ Nx (upd H4 D (.lst (acc ++ [y]))) else Nx H3))
    (fin : ∀ H s, Inv (X.blk s3 H3 scope ce fp) [] (wipe σ vs) H s → Qd H → R (.ok .next) s) {n0 : Nat} {s4 : Shared} (m0 : Mid X s3 H3 scope ce fp tn (wipe σ vs) W n0 s4) :
    codeAny (model X.prog X.w) X.A (.compLoop (.ListComp elt [⟨tg, iter, ifs, 0⟩] scope pos) 0 (.ref it) (.ref D) ce) R s4 := by
  refine compLoop_any (Mid X s3 H3 scope ce fp tn (wipe σ vs) W) (fun n s5 mid => ?_) n0 m0
  obtain ⟨i, H5, I5, st5, n5, w5⟩ := mid
  cases turn i n H5 w5 with
  | inl stopped =>
    refine thnF (T.done (X.blk s3 H3 scope ce fp) rfl rfl rfl hc i [] s5 _ H5 (fun _ _ => False) I5 (own_rec I5 n5) st5 stopped.1) fun r s6 ended => ?_
    rw [ended.1]
    exact fin H5 s6 ended.2 stopped.2
  | inr going =>
    obtain ⟨go, Nx, next, step⟩ := going
    refine thnF (T.item (X.blk s3 H3 scope ce fp) rfl rfl rfl hc i [] s5 _ H5 (fun _ _ => False) I5 (own_rec I5 n5) st5 go) fun r s6 drawn => ?_
    obtain ⟨u, er, h6⟩ := drawn
    rw [er]
    refine thnF h6 fun _ s7 item => ?_
    obtain ⟨x, H7, I7, r7, y7, st7, n7⟩ := item
    have pinned := I7.pinned (own_rec I7 n7) (T.obj _ _ st7)
    refine thnF (pg.run _ s7 _ H7 x u _ pinned r7 (step x H7 y7)) fun _ s8 stored => ?_
    obtain ⟨σ8, H8, I8, same, q8⟩ := stored
    -- from the turn's end to the next turn
    have again : ∀ {s' : Shared} {H' : Hp}, Inv (X.blk s3 H3 scope ce fp) ([] ++ pinsAt fp s7.heap) σ8 H' s' → Nx H' → ∃ m, m < n ∧ Mid X s3 H3 scope ce fp tn (wipe σ vs) W m s' := fun {s' H'} I' nx => by
      obtain ⟨m, lt, w'⟩ := next H' nx
      have stay : ∀ b o, b ∈ fp → s7.heap.get? b = some o → s'.heap.get? b = some o ∧ H' b = none := fun b o hb e => ⟨(I'.pin (b, o) (List.mem_append_right _ (List.mem_append_right _ (mem_pinsAt hb e)))).1, (I'.pin (b, o) (List.mem_append_right _ (List.mem_append_right _ (mem_pinsAt hb e)))).2.1⟩
      refine ⟨m, lt, i + 1, H', (I'.unpinned (pins := [])).weak (by rw [← same, wipe_length]) (fun j v e => (wipe_some (same ▸ e)).1), T.keep _ _ _ st7 fun b hb o e => (stay b o hb e).1, fun b hb => ?_, w'⟩
      obtain ⟨o, e, _⟩ := T.obj _ _ st7 b hb
      exact (stay b o hb e).2
    refine thnF (pt.run _ s8 σ8 H8 _ I8 q8) fun b s9 tested => ?_
    obtain ⟨H9, I9, q9⟩ := tested
    cases b with
    | false =>
      rw [if_neg Bool.false_ne_true] at q9 ⊢
      exact again I9 q9
    | true =>
      rw [if_pos rfl] at q9 ⊢
      refine thnF (pe.run _ s9 σ8 H9 _ I9 q9) fun z s10 told => ?_
      obtain ⟨yv, H10, I10, r10, acc, hD, small, nx⟩ := told
      exact app_ok (X := X.blk s3 H3 scope ce fp) I10 hD small r10 fun s11 I11 => again I11 nx
/-- [elt for tg in iter if ..]: ht and he may lean on the state σ, s, H ahead of the block -/
theorem pe_lcAt {pos : Pos} {wi : TI} {tt : L2.St → TT} {te : L2.St → TE} (hc : X.calm = true) (hN : X.N.Nodup) (hi : PI X tg iter wi) (ok : BlkOk X.N X.env.scope scope own)
    (hg : ∀ (s : Shared) (H : Hp) (C : Addr) (cl : List (Str × Addr)) (fp : List Addr), PG (X.blk s H scope (compEnvC scope cl C X.env) fp) tg g)
    (ht : ∀ (pins : List (Addr × Obj)) (σ : L2.St) (s : Shared) (H : Hp) (C : Addr) (cl : List (Str × Addr)) (fp : List Addr), Inv X pins σ H s → (∀ b ∈ fp, ∀ x c, X.env.cells.lookup x = some c → c ≠ b) → PTs (X.blk s H scope (compEnvC scope cl C X.env) fp) ifs (tt σ))
    (he : ∀ (pins : List (Addr × Obj)) (σ : L2.St) (s : Shared) (H : Hp) (C : Addr) (cl : List (Str × Addr)) (fp : List Addr), Inv X pins σ H s → PE (X.blk s H scope (compEnvC scope cl C X.env) fp) elt (te σ)) (hs : ∀ x, foldedSetIterable iter X.env x = pure x := by intro _; rfl) :
    PE X (.ListComp elt [⟨tg, iter, ifs, 0⟩] scope pos) (fun σ H Q => tLc wi g (tt σ) (te σ) (own.map (·.2)) σ H Q) := by
  refine ⟨fun pins s σ H Q I h => ?_⟩
  rw [eval_ListComp]
  have caps : ∀ y ∈ scope.names, y.2 = .free → ∃ c, X.env.cells.lookup y.1 = some c := fun y hy e => (ok.free y hy e).elim (fun k => I.ok.has _ (.inl k)) fun k => I.ok.has _ (.inr k)
  refine wpAny_comprehension_free (use := none) rfl hs (closure_ok caps) ok.kind (fun y hy e => by rw [ok.uniq y hy, e]) (thn (hi.run pins s σ H _ I h) fun xv s1 hx => thn hx fun itv s2 got => ?_)
  obtain ⟨it, fp, tn, J, H2, eit, I2, T, st2, f2, q⟩ := got
  rw [eit]
  refine wpAny_newObj_type (newEnv_comp ?_) (by show 0 ≤ sizeLine; decide)
  have freeD : H2 s2.heap.objs.size = none := I2.hok.fresh (Nat.le_refl _)
  obtain ⟨W, ⟨m0, w0⟩, turn⟩ := q _ freeD
  have I3 : Inv X pins σ (upd H2 s2.heap.objs.size (.lst [])) { s2 with heap := s2.heap.push { cls := .type "list", data := .seq ([] : List Value).toArray } } :=
    I2.laid (t' := s2.toks) (fun b o e => Heap.get?_push_of_some _ e) (Nat.le_refl _) ⟨Nat.zero_le _, [], 0, .nil, Heap.get?_push_size _ rfl⟩
  have low : ∀ b ∈ fp, b < s2.heap.objs.size := fun b hb => let ⟨o, e, _⟩ := T.obj _ _ st2 b hb; Heap.lt_size e
  generalize eD : s2.heap.objs.size = D at *
  generalize e3 : ({ s2 with heap := s2.heap.push { cls := .type "list", data := .seq ([] : List Value).toArray } } : Shared) = s3 at I3 ⊢
  have h3 : s3.heap = s2.heap.push { cls := .type "list", data := .seq ([] : List Value).toArray } := by rw [← e3]
  have f3 : ∀ b ∈ fp, FpOk X pins (upd H2 D (.lst [])) b ∧ b < s3.heap.objs.size := fun b hb =>
    ⟨⟨(upd_ne (Nat.ne_of_lt (low b hb))).trans (f2 b hb).1, (f2 b hb).2⟩, by rw [h3, Heap.size_push, eD]; exact Nat.lt_succ_of_lt (low b hb)⟩
  have st3 : tn 0 s3.heap := T.keep _ _ _ st2 fun b _ o e => by rw [h3]; exact Heap.get?_push_of_some _ e
  have I4 := block_start I3 ok hN f3
  have pt := ht pins σ s3 _ s3.heap.objs.size (cellsFrom (s3.heap.objs.size + 1) scope.names (cloFrom X.env.cells scope.names [])) fp I3 fun b hb => (f3 b hb).1.2.2.2.2.1
  have pe := he pins σ s3 _ s3.heap.objs.size (cellsFrom (s3.heap.objs.size + 1) scope.names (cloFrom X.env.cells scope.names [])) fp I3
  have pg := hg s3 (upd H2 D (.lst [])) s3.heap.objs.size (cellsFrom (s3.heap.objs.size + 1) scope.names (cloFrom X.env.cells scope.names [])) fp
  have none3 : ∀ b ∈ fp, (upd H2 D (.lst [])) b = none := fun b hb => (f3 b hb).1.1
  generalize eH : upd H2 D (.lst []) = H3 at I3 I4 pg pt pe w0 none3 f3
  have st4 : tn 0 (pushCells (s3.heap.push { cls := .type "dict", data := .dict #[] }) scope.names) := T.keep _ _ _ st3 fun b _ o e => pushCells_keeps _ _ _ _ (Heap.get?_push_of_some _ e)
  refine codeAny_compStart_list ?_ (T.self X.A 0 _ _ _ st4 ?_) <;>
  · refine lc_turns hc T pg pt pe turn (fun H5 s6 I6 qd => ?_) (n0 := m0) ⟨0, H3, I4, st4, none3, w0⟩
    have back : Inv X pins σ H5 s6 := I3.call' (ch := fp) I6.os I6.base I6.hok I6.bare fun b hb => ⟨(f3 b hb).1.2.2.2.1, (f3 b hb).1.2.1, (f3 b hb).1.2.2.2.2.1, (f3 b hb).1.2.2.2.2.2⟩
    have nC : H5 s3.heap.objs.size = none := I6.free
    obtain ⟨m, hn, _⟩ := I6.loc
    refine ⟨m, hn, fun h'' sb => ?_⟩
    obtain ⟨g0, g1, _, g3, g4, g5⟩ := I3.fpOk (Nat.le_refl _) nC
    exact ⟨.ref D, H5, back.turned (t' := s6.toks) (fun b o hb e => (sb.2 b hb).trans e) g0 g1 g3 g4 g5, rfl, qd⟩
end
end Fw
/-! calls over a larger ground: the cells of a frame that waits are part of it -/
namespace Fw
open PySem PySem.Spec PyProof.Rows L2 LamX
section
variable {X : Cx} {pins : List (Addr × Obj)} {σ : L2.St} {H : Hp} {s : Shared}
theorem env0_up (I : Inv X pins σ H s) (p : Addr → Bool) (hp : ∀ c, p c = true → H c = none ∧ c ∉ frs X.stack) :
    ∃ B : Heap, (∀ b o, X.base.get? b = some o → B.get? b = some o) ∧ (∀ c, p c = true → ∀ o, s.heap.get? c = some o → B.get? c = some o) ∧ Env0 X.prog X.w X.K X.mg B X.A X.stack s H := by
  have e0 := I.env0
  let hid : List Addr := (List.range s.heap.objs.size).filter fun b => !(p b) && (X.base.get? b).isNone
  have base_in : ∀ b o, X.base.get? b = some o → b ∉ hid := fun b o e hm => by
    have := (List.mem_filter.mp hm).2
    rw [e] at this
    simp at this
  have p_in : ∀ c, p c = true → c ∉ hid := fun c e hm => by
    have := (List.mem_filter.mp hm).2
    rw [e] at this
    simp at this
  have inB : ∀ b o, X.base.get? b = some o → (PySem.W.hideAll s.heap hid).get? b = some o := fun b o e => PySem.W.hideAll_get _ (I.bk b o e) (base_in b o e)
  have ofB : ∀ b o, (PySem.W.hideAll s.heap hid).get? b = some o → s.heap.get? b = some o ∧ (p b = true ∨ ∃ o, X.base.get? b = some o) := fun b o e => by
    have e1 := PySem.W.of_hideAll hid e
    refine ⟨e1, ?_⟩
    cases hpb : p b with
    | true => exact .inl rfl
    | false =>
      cases hb : X.base.get? b with
      | some u => exact .inr ⟨u, rfl⟩
      | none =>
        have hm : b ∈ hid := List.mem_filter.mpr ⟨List.mem_range.mpr (Heap.lt_size e1), by simp [hpb, hb]⟩
        rw [PySem.W.hideAll_none hid hm] at e
        cases e
  refine ⟨PySem.W.hideAll s.heap hid, inB, fun c hc o e => PySem.W.hideAll_get _ e (p_in c hc), e0.frames, ?_, fun b o e => ?_, Nat.le_of_eq (PySem.W.hideAll_size _ _), ?_, e0.frf, e0.hok, e0.bare⟩
  · obtain ⟨mb, h1, h2⟩ := I.mod.blt
    exact ⟨I.mod.kin.keeps inB, I.mod.glob.keeps inB, ⟨mb, h1.keeps inB, h2⟩, I.mod.nolimit.keeps inB⟩
  · obtain ⟨e1, h⟩ := ofB b o e
    refine ⟨e1, ?_⟩
    rcases h with h | ⟨u, h⟩
    · exact (hp b h).1
    · exact (I.bs b u h).2
  · refine funFrames_none e0.funs fun L hL => ?_
    cases q : (PySem.W.hideAll s.heap hid).get? L with
    | none => rfl
    | some o =>
      rcases (ofB L o q).2 with h | ⟨u, h⟩
      · exact absurd hL (hp L h).2
      · have := (e0.funs.mem hL).1
        rw [h] at this
        cases this
/-- what is asked of the ground: the frame's cells with the slots' values -/
structure CellsOk (X : Cx) (σ : L2.St) (B : Heap) : Prop where
  val : ∀ (i : Nat) (y : Str) (v : V), X.N[i]? = some y → σ[i]? = some (some v) → X.env.scope.names.lookup y = some .cell → ∃ c u, X.env.cells.lookup y = some c ∧ B.IsCell c (some u) ∧ RelV v u
  all : ∀ y c, X.env.cells.lookup y = some c → ∃ u, B.IsCell c u
/-- the cells of a frame, seen from a state behind it -/
def isCellOf (X : Cx) (c : Addr) : Bool := X.env.cells.any fun q => q.2 == c
theorem isCellOf_of {y : Str} {c : Addr} (h : X.env.cells.lookup y = some c) : isCellOf X c = true := List.any_eq_true.mpr ⟨(y, c), PySem.mem_of_lookup h, by simp⟩
/-- every cell of the frame can be found by its name -/
def CellsPlain (X : Cx) : Prop := ∀ q ∈ X.env.cells, X.env.cells.lookup q.1 = some q.2
theorem of_isCell (hp : CellsPlain X) {c : Addr} (h : isCellOf X c = true) : ∃ y, X.env.cells.lookup y = some c := by
  obtain ⟨q, hq, e⟩ := List.any_eq_true.mp h
  have e' : q.2 = c := by simpa using e
  exact ⟨q.1, by rw [← e']; exact hp q hq⟩
theorem cell_apart (I : Inv X pins σ H s) (hfn : ∀ x, X.fn x = true) {y : Str} {c : Addr} (h : X.env.cells.lookup y = some c) : H c = none ∧ c ∉ frs X.stack := by
  refine ⟨I.freeC y c h, fun hm => ?_⟩
  rcases List.mem_cons.mp (I.stkSub c hm) with e | e
  · exact I.cne y c h e
  · obtain ⟨_, o, ho, _⟩ := I.ok.funs.mem e
    exact absurd (Nat.lt_of_lt_of_le (Heap.lt_size ho) (I.ok.cab y c (hfn y) h)) (Nat.lt_irrefl _)
theorem cells_of (I : Inv X pins σ H s) {h : Heap} (k : ∀ y c, X.env.cells.lookup y = some c → ∀ o, s.heap.get? c = some o → h.get? c = some o) : CellsOk X σ h := by
  refine ⟨fun i y v e1 e2 e3 => ?_, fun y c e => ?_⟩
  · obtain ⟨m, hn, hl⟩ := I.loc
    obtain ⟨u, r, l⟩ := hl i y v e1 e2 (.inr (.inl e3))
    rcases l with ⟨q, _⟩ | ⟨_, c, hc, o, ho, hd⟩
    · have q' : X.env.scope.names.lookup y = some .local := q
      rw [e3] at q'
      cases q'
    · exact ⟨c, u, hc, ⟨o, k y c hc o ho, hd⟩, r⟩
  · obtain ⟨u, o, ho, hd⟩ := I.cell y c e
    exact ⟨u, o, k y c e o ho, hd⟩
end
/-! ### f(e, ..) over such a ground -/
def tUp (K : PySem.W.Frag) (mg : Str → Option Value) (good : L2.St → Heap → Prop) (sp : Heap → Sp) (t : TA) : TE := fun σ H Q => t σ H fun vs H1 => ∀ B : Heap, K.In B → B.Ns mainGlobals mg → good σ B → sp B vs H1 Q E0
/-- a context whose states give such a ground -/
def Gives (X : Cx) (good : L2.St → Heap → Prop) : Prop := ∀ (pins : List (Addr × Obj)) (σ : L2.St) (H : Hp) (s : Shared), Inv X pins σ H s →
  ∃ B : Heap, (∀ b o, X.base.get? b = some o → B.get? b = some o) ∧ good σ B ∧ Env0 X.prog X.w X.K X.mg B X.A X.stack s H
theorem pe_up {X : Cx} {k : Nat} {f : Addr} {fd : FuncData} {ps : List Str} {sp : Heap → Sp} {x : Str} {p pos : Pos} {e : Expr} {es : List Expr} {t : TA} {good : L2.St → Heap → Prop} (G : Gives X good)
    (F : ∀ B : Heap, X.K.In B → B.Ns mainGlobals X.mg → FnOk X.prog X.w X.K X.mg B CX0 k f fd ps (sp B)) (hr : Room k X.A) (hg : Gl X x) (hm : X.mg x = some (.ref f)) (hk : PySem.W.keepIn X.K (.ref f) = true) (hb : Binds X.K fd ps [])
    (ha : PA X (e :: es) t) (hdb : (x == ("__debug__" : Str)) = false := by decide) (he : starEach (e :: es) X.env = (false, eval e X.env) :: starEach es X.env := by rfl) (hpl : (backTo pos (starEach es X.env)).any (·.1) = false := by rfl) :
    PE X (.Call (.Name x p) (e :: es) [] pos) (tUp X.K X.mg good sp t) := by
  refine ⟨fun pins s σ H Q I h => ?_⟩
  refine wpAny_Call_Name_kw (ld_glob I hg hm ?_ hdb)
  refine PySem.W.callWith_K (h₀ := X.base) I.ok.mod.kin hk (thn (ha.run pos pins s σ H _ I h) fun us s1 ⟨vs, H1, I1, r, q⟩ => ⟨I1.kIn, ?_⟩) he hpl
  obtain ⟨B, sub, gd, e0⟩ := G pins σ H1 s1 I1
  have FB := F B e0.mod.kin e0.mod.glob
  have want := q B e0.mod.kin e0.mod.glob gd
  have hl : us.length = ps.length := by rw [← r.length]; exact FB.len _ _ _ _ want
  have bnd := hb s1 us I1.kIn (by simpa using hl)
  rw [List.append_nil] at bnd
  refine wpAny_call (codeAny_mono (FB.run X.A X.stack s1 H1 ⟨us, []⟩ us vs Q E0 hr e0 bnd r want) fun r s' hq => ?_)
  cases r with
  | error e => exact False.elim hq
  | ok fl =>
    cases fl with
    | ret u => exact I1.after hq
    | next => exact False.elim hq
    | brk => exact False.elim hq
    | cont => exact False.elim hq
section
variable {X : Cx}
theorem gives_own (hp : CellsPlain X) (hfn : ∀ x, X.fn x = true) : Gives X (CellsOk X) := fun pins σ H s I => by
  obtain ⟨B, h1, h2, h3⟩ := env0_up I (isCellOf X) fun c hc => let ⟨y, e⟩ := of_isCell hp hc; cell_apart I hfn e
  exact ⟨B, h1, cells_of I fun y c e o ho => h2 c (isCellOf_of e) o ho, h3⟩
/-- in a comprehension's block of that frame, begun at s -/
theorem gives_blk {pins : List (Addr × Obj)} {σ0 : L2.St} {s : Shared} {H : Hp} {scope : Scope} {ce : Env} {fp : List Addr} (hp : CellsPlain X) (hfn : ∀ x, X.fn x = true) (I : Inv X pins σ0 H s) (hfp : ∀ b ∈ fp, ∀ x c, X.env.cells.lookup x = some c → c ≠ b) :
    Gives (X.blk s H scope ce fp) (fun _ B => CellsOk X σ0 B) := fun pins' σ H1 s1 J => by
  have kept : ∀ y c, X.env.cells.lookup y = some c → ∀ o, s.heap.get? c = some o → s1.heap.get? c = some o ∧ H1 c = none := fun y c e o ho => by
    obtain ⟨n, nf⟩ := cell_apart I hfn e
    have nx : c ∉ fp := fun hm => hfp c hm y c e rfl
    exact ⟨J.base.keep c o ho n nf nx, J.base.free c o ho n nx⟩
  have at_ : ∀ y c, X.env.cells.lookup y = some c → ∃ o, s.heap.get? c = some o := fun y c e => let ⟨_, o, ho, _⟩ := I.cell y c e; ⟨o, ho⟩
  obtain ⟨B, h1, h2, h3⟩ := env0_up J (isCellOf X) fun c hc => by
    obtain ⟨y, e⟩ := of_isCell hp hc
    obtain ⟨o, ho⟩ := at_ y c e
    exact ⟨(kept y c e o ho).2, (cell_apart I hfn e).2⟩
  exact ⟨B, h1, cells_of I fun y c e o ho => h2 c (isCellOf_of e) o (kept y c e o ho).1, h3⟩
/-- the cells that a lambda captured -/
theorem cells_lam {σ : L2.St} {B : Heap} {q : Str} {params : Arguments} {body : Expr} {scope : Scope} {c' : Addr} (C : CellsOk X σ B) (hN : σ.length = X.N.length) (hnd : X.N.Nodup) (inj : ∀ y z c, X.env.cells.lookup y = some c → X.env.cells.lookup z = some c → y = z)
    (hs : ∀ y, scope.names.lookup y = some .free → ∃ (i : Nat) (v : V), X.N[i]? = some y ∧ σ[i]? = some (some v) ∧ X.env.scope.names.lookup y = some .cell) (hu : ∀ y ∈ scope.names, y.2 = .free → scope.names.lookup y.1 = some .free) : CellsIn B X.N σ ⟨q, params, body, scope, cloFrom X.env.cells scope.names [], c'⟩ := by
  have of_clo : ∀ y c, (cloFrom X.env.cells scope.names []).lookup y = some c → X.env.cells.lookup y = some c := fun y c e => by
    rcases cloFrom_mem (PySem.mem_of_lookup e) with hm | ⟨h1, h2⟩
    · cases hm
    · obtain ⟨i, v, e1, e2, e3⟩ := hs y (hu _ h1 rfl)
      obtain ⟨c1, u, hc, _⟩ := C.val i y v e1 e2 e3
      rw [h2, hc]
      rfl
  refine ⟨fun y hy => ?_, fun y z c e1 e2 => inj y z c (of_clo y c e1) (of_clo z c e2), fun y c e => C.all y c (of_clo y c e), hN⟩
  obtain ⟨i, v, e1, e2, e3⟩ := hs y hy
  obtain ⟨c, u, hc, hB, r⟩ := C.val i y v e1 e2 e3
  obtain ⟨c2, hc2⟩ := mem_lookup (cloFrom_has (cells := X.env.cells) (acc := []) (PySem.mem_of_lookup hy))
  have e4 : c2 = c := Option.some.inj ((of_clo y c2 hc2).symm.trans hc)
  refine ⟨c2, u, hc2, e4 ▸ hB, fun j v' e5 e6 => ?_⟩
  have ej : j = i := nodup_ix hnd e5 e1
  subst ej
  rw [e2] at e6
  cases e6
  exact r
end
end Fw
/-! rules that lack: walks of lists and tuples alike, enumerate over a tuple, keywords alone, repr -/
namespace Fw
open PySem PySem.Spec PyProof.Rows L2
abbrev SS := L2.St
/-! ### enumerate -/
/-- the items of what S tells, each in a new pair with its place -/
def ItG (S : Hp → List V → Prop) : It :=
  ⟨fun i H => ∃ (xs : List V) (x : V), S H xs ∧ xs[i]? = some x, fun i H v H' => ∃ T x, v = .ref T ∧ H T = none ∧ H' = upd H T (.tup [.int (i : Nat), x]) ∧ ∀ xs, S H xs → xs[i]? = some x, fun i H => ∃ xs : List V, S H xs ∧ xs.length = i⟩
theorem enumT_meets (t : Addr) (items : Array Value) :
    Meets (Builtin.«enumerate.__new__» ⟨[.type "enumerate", .ref t], []⟩) (fun _ R s => s.heap.IsTuple t items ∧
      R (.ok (.ret (.ref (s.heap.push { cls := .type "tuple_iterator", data := .fields #[.ref t, .int 0 0] }).objs.size)))
        { s with heap := (s.heap.push { cls := .type "tuple_iterator", data := .fields #[.ref t, .int 0 0] }).push { cls := .type "enumerate", data := .fields #[.none, .bool false, .ref s.heap.objs.size, rawInt 0, .none, .none] } }) :=
  .of_wp fun prog w A R s h => by
    obtain ⟨hp, g, d, tk, os⟩ := s
    obtain ⟨ht, h⟩ := h
    have hsub := sub_enumerate
    have walk : ∀ {A' : Around} {E : Value → Shared → Prop} {Q : Value → Shared → Prop}, Q (.ref hp.objs.size) ⟨hp.push { cls := .type "tuple_iterator", data := .fields #[.ref t, .int 0 0] }, g, d, tk, os⟩ → wpAny (model prog w) A' (pyIter (.ref t)) Q E ⟨hp, g, d, tk, os⟩ :=
      fun q => wpAny_pyIter_tuple (s := ⟨hp, g, d, tk, os⟩) ht q
    wp_walk using walk
    refine wpAny_stack_any fun st => wpAny_pure ?_
    split
    · rename_i c _ _ _ _ _
      cases (c == Value.type "enumerate") <;> (wp_walk using walk; exact ⟨_, rfl, h⟩)
    · wp_walk using walk
      exact ⟨_, rfl, h⟩
theorem call_enumT {prog : Program} {w : World} {A : Around} {E : Value → Shared → Prop} {s : Shared} {t : Addr} {items : Array Value} {Q : Value → Shared → Prop} (ht : s.heap.IsTuple t items)
    (h : ∀ h', IsEnum h' (s.heap.objs.size + 1) s.heap.objs.size 0 .none → h'.IsTupleIter s.heap.objs.size t 0 → (∀ b o, s.heap.get? b = some o → h'.get? b = some o) → Q (.ref (s.heap.objs.size + 1)) { s with heap := h' }) :
    wpAny (model prog w) A (call (.type "enumerate") [.ref t]) Q E s := by
  refine callType_new F.called_enumerate (by decide) (F.typeCall_enumerate_1 _) (F.newCall_enumerate_1 _) (fun obj => F.args_object_init_2 obj _) F.entry_enumerate_new (enumT_meets t items) ⟨ht, ?_⟩
  have hz : (s.heap.push { cls := .type "tuple_iterator", data := .fields #[.ref t, .int 0 0] }).objs.size = s.heap.objs.size + 1 := Heap.size_push ..
  show _ ∧ _
  rw [hz]
  have he : IsEnum ((s.heap.push { cls := .type "tuple_iterator", data := .fields #[.ref t, .int 0 0] }).push { cls := .type "enumerate", data := .fields #[.none, .bool false, .ref s.heap.objs.size, rawInt 0, .none, .none] }) (s.heap.objs.size + 1) s.heap.objs.size 0 .none := by
    have z := Heap.get?_push_size (s.heap.push { cls := .type "tuple_iterator", data := .fields #[.ref t, .int 0 0] }) (o := { cls := .type "enumerate", data := .fields #[.none, .bool false, .ref s.heap.objs.size, rawInt 0, .none, .none] }) rfl
    rw [hz] at z
    exact z
  exact ⟨⟨_, he, rfl⟩, h _ he ⟨_, Heap.get?_push_of_some _ (Heap.get?_push_size _ rfl), rfl, rfl⟩ fun b o x => Heap.get?_push_of_some _ (Heap.get?_push_of_some _ x)⟩
theorem turn_enumT {P : Program} {w : World} {K : PySem.W.Frag} {elts : List Expr} {kk : Nat} {tpos : Pos} (a e it : Addr) :
    Turn P w K (.Tuple elts kk tpos) (ItG fun H xs => SqT K H a xs) [e, it] e (fun i h => (∃ old, IsEnum h e it ((i : Nat) : Int) old) ∧ h.IsTupleIter it a i ∧ e ≠ it) where
  mem := List.mem_cons_self
  obj := fun i h st b hb => by
    obtain ⟨⟨old, he⟩, ⟨o, ho, hc, hd⟩, _⟩ := st
    rcases List.mem_cons.mp hb with z | z
    · rw [z]; exact ⟨_, he, fun v q => nomatch q⟩
    · have z' : b = it := by simpa using z
      exact ⟨o, z' ▸ ho, fun v q => by rw [hd] at q; cases q⟩
  keep := fun i h h' st k => ⟨let ⟨old, he⟩ := st.1; ⟨old, k e List.mem_cons_self _ he⟩, st.2.1.at fun o e => k it (by simp) o e, st.2.2⟩
  item := by
    intro X hP hw hK hc i pins s σ H E I hf st hg
    subst hP hw hK
    obtain ⟨⟨old, he⟩, hit, hne⟩ := st
    obtain ⟨xs, x, hq, hx⟩ := hg
    obtain ⟨its, rv, p, hz⟩ := I.tuple hq
    obtain ⟨u, hu, ru⟩ := rv.get hx
    have tup : s.heap.IsTuple a its.toArray := p
    have ai : a ≠ it := fun z => by
      obtain ⟨o1, e1, c1, _⟩ := tup
      obtain ⟨o2, e2, c2, _⟩ := hit
      rw [z, e2] at e1
      cases e1
      rw [c1] at c2
      exact absurd c2 (by decide)
    have ae : e ≠ a := fun z => by
      obtain ⟨o1, e1, c1, _⟩ := tup
      rw [← z, he] at e1
      cases e1
      have c1' : Value.type "enumerate" = Value.type "tuple" := c1
      exact absurd c1' (by decide)
    have lt : i < its.length := by
      rw [← rv.length]
      exact (List.getElem?_eq_some_iff.mp hx).1
    have G := GoesN.enumFrom (elts := elts) (x1 := kk) (pos := tpos) 0 (Draws.tuple (prog := X.prog) (w := X.w) (A := X.A.in1) (I.ok.hd hc) it a ai its.toArray) e hne (by simp [hne, ae]) (by simp)
    refine G.goes i s _ E (by simpa using lt) ⟨⟨old, by simpa using he⟩, hit, tup⟩ fun v h' tk y st' keep _ => ?_
    obtain ⟨T, t, x', ev, hT, hx', ht⟩ := y
    subst ev
    have xu : x' = u := by
      have z : its[i]? = some x' := by simpa using hx'
      rw [hu] at z
      exact (Option.some.inj z).symm
    subst xu
    have new : ObjOk X.prog X.w (upd H T (.tup [.int (i : Nat), x])) h' T (.tup [.int (i : Nat), x]) :=
      ⟨by show 2 ≤ sizeLine; decide, [.int i t, x'], .cons ⟨_, rfl⟩ (.cons ru .nil), by rw [Int.zero_add] at ht; exact ht⟩
    have hel : e < s.heap.objs.size := Heap.lt_size he
    have hil : it < s.heap.objs.size := by obtain ⟨_, q, _⟩ := hit; exact Heap.lt_size q
    refine ⟨.ref T, _, I.turnedNew (t' := tk) (ch := [e, it]) (fun b ob hb q => keep b ob hb q) hf hT new, rfl, ⟨T, x, rfl, I.hok.fresh hT, rfl, fun ys hy => by rw [I.tuple_inj hy hq]; exact hx⟩, ⟨?_, st'.2.1, hne⟩, fun b hb => ?_⟩
    · obtain ⟨old', q⟩ := st'.1
      exact ⟨old', by simpa using q⟩
    · have hb' : b < s.heap.objs.size := by
        rcases List.mem_cons.mp hb with z | z
        · rw [z]; exact hel
        · have z' : b = it := by simpa using z
          rw [z']; exact hil
      rw [upd_ne (Nat.ne_of_lt (Nat.lt_of_lt_of_le hb' hT))]
      exact (hf b hb).1
  done := by
    intro X hP hw hK hc i pins s σ H E I hf st hg
    subst hP hw hK
    obtain ⟨⟨old, he⟩, hit, hne⟩ := st
    obtain ⟨xs, hq, hx⟩ := hg
    obtain ⟨its, rv, p, hz⟩ := I.tuple hq
    have tup : s.heap.IsTuple a its.toArray := p
    have ai : a ≠ it := fun z => by
      obtain ⟨o1, e1, c1, _⟩ := tup
      obtain ⟨o2, e2, c2, _⟩ := hit
      rw [z, e2] at e1
      cases e1
      rw [c1] at c2
      exact absurd c2 (by decide)
    have ae : e ≠ a := fun z => by
      obtain ⟨o1, e1, c1, _⟩ := tup
      rw [← z, he] at e1
      cases e1
      have c1' : Value.type "enumerate" = Value.type "tuple" := c1
      exact absurd c1' (by decide)
    have hl : i = its.length := by rw [← rv.length]; exact hx.symm
    have G := GoesN.enumFrom (elts := elts) (x1 := kk) (pos := tpos) 0 (Draws.tuple (prog := X.prog) (w := X.w) (A := X.A.in1) (I.ok.hd hc) it a ai its.toArray) e hne (by simp [hne, ae]) (by simp)
    exact G.stops s _ E ⟨⟨old, by simpa [← hl] using he⟩, by simpa [← hl] using hit, tup⟩ fun h' tk keep _ => I.turnedL (t' := tk) (ch := [e, it]) (fun b o hb q => keep b o hb q) hf
  self := fun A i s Q E st h => let ⟨⟨_, he⟩, _⟩ := st; wpAny_pyIter_enum he h
/-- a turn that stops later -/
theorem turn_fewer {P : Program} {w : World} {K : PySem.W.Frag} {tg : Expr} {J J' : It} {fp : List Addr} {it : Addr} {tn : Nat → Heap → Prop} (T : Turn P w K tg J fp it tn) (h1 : J'.go = J.go) (h2 : J'.yld = J.yld) (h3 : ∀ i H, J'.stop i H → J.stop i H) : Turn P w K tg J' fp it tn where
  mem := T.mem
  obj := T.obj
  keep := T.keep
  item := by rw [h1, h2]; exact T.item
  done := fun X a b c d i pins s σ H E I hf st hg => T.done X a b c d i pins s σ H E I hf st (h3 i H hg)
  self := T.self
/-- enumerate(v), v a list or a tuple -/
def iEnumS (K : PySem.W.Frag) (ta : TA) : TI := fun σ H R => ta σ H fun vs H1 => ∃ a xs, vs = [.ref a] ∧ ((SqL K H1 a xs ∧ R (ItG fun H ys => SqL K H a ys) H1) ∨ (SqT K H1 a xs ∧ R (ItG fun H ys => SqT K H a ys) H1))
theorem pi_enumS {X : Cx} {e : Expr} {ta : TA} {p pos tpos : Pos} {elts : List Expr} {kk : Nat} (hg : Gl X "enumerate") (hm : X.mg "enumerate" = none) (ha : PA X [e] ta) (hs : starEach [e] X.env = [(false, eval e X.env)] := by rfl) :
    PI X (.Tuple elts kk tpos) (.Call (.Name "enumerate" p) [e] [] pos) (iEnumS X.K ta) := by
  refine ⟨fun pins s σ H R I h => ?_⟩
  refine Call_ (ld_blt I hg hm boot_enumerate (PyProof.Rows.callWith_type1 (thn (ha.run pos pins s σ H _ I h) fun us s1 ⟨vs, H1, I1, r1, q1⟩ => ?_) hs rfl))
  obtain ⟨a, xs, ex, q⟩ := q1
  subst ex
  cases r1 with
  | cons r rr =>
    cases rr
    cases r
    have big : ∀ b ∈ [s1.heap.objs.size + 1, s1.heap.objs.size], s1.heap.objs.size ≤ b := fun b hb => by
      rcases List.mem_cons.mp hb with z | z
      · rw [z]; exact Nat.le_succ _
      · have z' : b = s1.heap.objs.size := by simpa using z
        exact Nat.le_of_eq z'.symm
    rcases q with ⟨hq, q⟩ | ⟨hq, q⟩
    · obtain ⟨its, rv, p', hz⟩ := I1.list hq
      refine call_enumerate_list p'.isList fun h' he hit hsz hk => wpAny_pyIter_enum he ?_
      have I2 : Inv X pins σ H1 { s1 with heap := h' } := I1.kept (t' := s1.toks) hk
      exact ⟨s1.heap.objs.size + 1, [s1.heap.objs.size + 1, s1.heap.objs.size], _, _, H1, rfl, I2, turn_fewer (J' := ItG fun H ys => SqL X.K H a ys) (turn_enum a (s1.heap.objs.size + 1) s1.heap.objs.size) rfl rfl (fun i H ⟨ys, h1, h2⟩ => ⟨ys, h1, Nat.le_of_eq h2⟩), ⟨⟨.none, he⟩, hit, Nat.succ_ne_self _⟩, fun b hb => I1.fpOk (big b hb) (I1.hok.fresh (big b hb)), q⟩
    · obtain ⟨its, rv, p', hz⟩ := I1.tuple hq
      refine call_enumT (items := its.toArray) p' fun h' he hit hk => wpAny_pyIter_enum he ?_
      have I2 : Inv X pins σ H1 { s1 with heap := h' } := I1.kept (t' := s1.toks) hk
      exact ⟨s1.heap.objs.size + 1, [s1.heap.objs.size + 1, s1.heap.objs.size], _, _, H1, rfl, I2, turn_enumT a (s1.heap.objs.size + 1) s1.heap.objs.size, ⟨⟨.none, he⟩, hit, Nat.succ_ne_self _⟩, fun b hb => I1.fpOk (big b hb) (I1.hok.fresh (big b hb)), q⟩
theorem walk_G {S : Hp → List V → Prop} {xs : List V} : Walk (ItG S) xs.length (fun H => S H xs) (YPair (fun i => some (.int (i : Nat))) (fun i => xs[i]?)) :=
  ⟨fun i _ hi q => ⟨xs, xs[i], q, by simp [hi]⟩, fun _ q => ⟨xs, q, rfl⟩, fun i H v H' _ q y => by
    obtain ⟨T, x, h1, h2, h3, h4⟩ := y
    exact ⟨T, .int (i : Nat), x, h1, h2, h3, rfl, h4 xs q⟩⟩
/-- for x in v, v a list or a tuple -/
def iSeq (K : PySem.W.Frag) (tl : TE) : TI := fun σ H R => tl σ H fun x H1 => ∃ a xs, x = .ref a ∧ ((SqL K H1 a xs ∧ R (Itl K a) H1) ∨ (SqT K H1 a xs ∧ R (Itt K a) H1))
theorem pi_seq {X : Cx} {tg l : Expr} {tl : TE} (hl : PE X l tl) : PI X tg l (iSeq X.K tl) := by
  refine ⟨fun pins s σ H R I h => ?_⟩
  refine thn (hl.run pins s σ H _ I h) fun v s1 ⟨x, H1, I1, r1, q1⟩ => ?_
  obtain ⟨a, xs, e, q⟩ := q1
  subst e
  cases r1
  have fpk : ∀ b ∈ [s1.heap.objs.size], FpOk X pins H1 b := fun b hb => by
    have e : b = s1.heap.objs.size := by simpa using hb
    subst e
    exact I1.fpOk (Nat.le_refl _) (I1.hok.fresh (Nat.le_refl _))
  rcases q with ⟨hq, q⟩ | ⟨hq, q⟩
  · obtain ⟨its, rv, p, hz⟩ := I1.list hq
    refine wpAny_pyIter_list p.isList ?_
    exact ⟨s1.heap.objs.size, [s1.heap.objs.size], _, _, H1, rfl, I1.kept (t' := s1.toks) fun b o e => Heap.get?_push_of_some _ e, turn_list a _, ⟨_, Heap.get?_push_size _ rfl, rfl, rfl⟩, fpk, q⟩
  · obtain ⟨its, rv, p, hz⟩ := I1.tuple hq
    refine wpAny_pyIter_tuple (show s1.heap.IsTuple a its.toArray from p) ?_
    exact ⟨s1.heap.objs.size, [s1.heap.objs.size], _, _, H1, rfl, I1.kept (t' := s1.toks) fun b o e => Heap.get?_push_of_some _ e, turn_tuple a _, ⟨_, Heap.get?_push_size _ rfl, rfl, rfl⟩, fpk, q⟩
/-! ### f(k = v, ..), keywords alone -/
theorem pe_callK0 {X : Cx} {CX : CXT} {k : Nat} {f : Addr} {fd : FuncData} {ps ks : List Str} {sp : Sp} {E : XK} {x : Str} {p pos : Pos} {kws : List Keyword} {tk : TA} {g : List Value → List Value → List Value} {gV : List V → List V → List V}
    (F : FnOk X.prog X.w X.K X.mg X.base CX k f fd ps sp) (hr : Room k X.A) (hg : Gl X x) (hm : X.mg x = some (.ref f)) (hk : PySem.W.keepIn X.K (.ref f) = true) (hb : KBinds X.K fd ps ks g gV) (hx : Passes CX X E)
    (hkw : PK X kws tk) (hall : (backToKw pos (keywordEach kws X.env)).all (·.1.isSome) = true := by rfl) (hks : (backToKw pos (keywordEach kws X.env)).filterMap (·.1) = ks := by rfl)
    (hdb : (x == ("__debug__" : Str)) = false := by decide) (hpl : (backToKw pos (keywordEach kws X.env)).any (·.1.isNone) = false := by rfl) :
    PE X (.Call (.Name x p) [] kws pos) (tCallK sp gV E tNil tk) := by
  refine ⟨fun pins s σ H Q I h => ?_⟩
  refine wpAny_Call_Name_kw (ld_glob I hg hm ?_ hdb)
  refine PySem.W.callWith_KW0 (h₀ := X.base) I.ok.mod.kin hk hall (thn (hkw.run pos pins s σ H _ I h) fun ws s2 ⟨zs, H2, I2, rz, q2⟩ => ⟨I2.kIn, ?_⟩) ?_
  · rw [hks]
    exact run_fnk F hr hb hx I2 .nil rz q2
  · show (false || _) = false
    rw [hpl]
    rfl
/-! ### repr -/
def rRepr (K : PySem.W.Frag) : List V → Hp → VK → Prop := fun xs H Q => ∃ (a : Addr) (d : PyData), xs = [.ref a] ∧ Dp K H (.ref a) d ∧ d.showable = true ∧ d.hasDict = false ∧ d.depth ≤ 60 ∧ d.shown.length ≤ sizeLine ∧ Q (.str d.shown) H
theorem call_repr {X : Cx} (hg : X.A.guards = some []) (hu : X.A.units + 64 < cLine) : CallR X (.builtin "repr") (rRepr X.K) := by
  intro pins s σ H xs us Q I r h
  obtain ⟨a, d, rfl, hd, h1, h2, h3, h4, q⟩ := h
  obtain ⟨u, rfl, ru⟩ := vals1 r
  obtain rfl : u = Value.ref a := ru
  obtain ⟨as, rd⟩ := Dp.reads I d (.ref a) (.ref a) hd rfl
  refine repr_of_reads' (h₀ := s.heap) rd h1 (fun z => by rw [h2] at z; cases z) hg (by omega) (fun _ _ e => e) (fun h' u tk hk => ?_) h4
  exact ⟨.str d.shown, H, I.kept (t' := tk) hk, ⟨u, rfl⟩, q⟩
end Fw
/-! plain data at a heap, and the document's words on plain data -/
namespace Fw
open PySem PySem.Spec PyProof.Rows L2 Evl
abbrev Kf := PySem.W.Frag
section
variable {K : Kf} {H H' : Hp}
mutual
theorem dp_ex (e : Ex H H') : ∀ (d : PyData) (v : V), Dp K H v d → Dp K H' v d
  | .none, _, h => by cases h; exact .non
  | .bool b, _, h => by cases h; exact .bl b
  | .int i, _, h => by cases h; exact .int i
  | .str x, _, h => by cases h; exact .str x
  | .list ds, _, h => by
    cases h with
    | lst hs ha => exact .lst (ex_l e hs) (da_ex e ds _ ha)
  | .tuple ds, _, h => by
    cases h with
    | tup hs ha => exact .tup (ex_t e hs) (da_ex e ds _ ha)
  | .dict _, _, h => by cases h
theorem da_ex (e : Ex H H') : ∀ (ds : List PyData) (vs : List V), DpAll K H vs ds → DpAll K H' vs ds
  | [], _, h => by cases h; exact .nil
  | d :: ds, _, h => by
    cases h with
    | cons h1 h2 => exact .cons (dp_ex e d _ h1) (da_ex e ds _ h2)
end
theorem _root_.L2.Dp.ex {v : V} {d : PyData} (h : Dp K H v d) (e : Ex H H') : Dp K H' v d := dp_ex e d v h
theorem _root_.L2.DpAll.ex {vs : List V} {ds : List PyData} (h : DpAll K H vs ds) (e : Ex H H') : DpAll K H' vs ds := da_ex e ds vs h
theorem da_len {vs : List V} {ds : List PyData} (h : DpAll K H vs ds) : vs.length = ds.length := by
  induction ds generalizing vs with
  | nil => cases h; rfl
  | cons d ds ih =>
    cases h with
    | cons h1 h2 => simp [ih h2]
theorem da_get {vs : List V} {ds : List PyData} (h : DpAll K H vs ds) {i : Nat} {v : V} (hi : vs[i]? = some v) : ∃ d, ds[i]? = some d ∧ Dp K H v d := by
  induction ds generalizing vs i with
  | nil => cases h; simp at hi
  | cons d ds ih =>
    cases h with
    | cons h1 h2 =>
      cases i with
      | zero => simp at hi; subst hi; exact ⟨d, rfl, h1⟩
      | succ i => simp at hi; obtain ⟨d', e1, e2⟩ := ih h2 hi; exact ⟨d', by simpa using e1, e2⟩
theorem da_at {vs : List V} {ds : List PyData} (h : DpAll K H vs ds) {i : Nat} {d : PyData} (hi : ds[i]? = some d) : ∃ v, vs[i]? = some v ∧ Dp K H v d := by
  induction ds generalizing vs i with
  | nil => simp at hi
  | cons d' ds ih =>
    cases h with
    | cons h1 h2 =>
      cases i with
      | zero => simp at hi; subst hi; exact ⟨_, rfl, h1⟩
      | succ i => simp at hi; obtain ⟨v', e1, e2⟩ := ih h2 hi; exact ⟨v', by simpa using e1, e2⟩
theorem da_append {vs us : List V} {ds es : List PyData} (h : DpAll K H vs ds) (g : DpAll K H us es) : DpAll K H (vs ++ us) (ds ++ es) := by
  induction ds generalizing vs with
  | nil => cases h; exact g
  | cons d ds ih =>
    cases h with
    | cons h1 h2 => exact .cons h1 (ih h2)
theorem da_ints : ∀ ns : List Int, DpAll K H (ns.map V.int) (ns.map PyData.int)
  | [] => .nil
  | n :: ns => .cons (.int n) (da_ints ns)
theorem da_of {α : Type} {f : α → V} {g : α → PyData} (h : ∀ x, Dp K H (f x) (g x)) : ∀ xs : List α, DpAll K H (xs.map f) (xs.map g)
  | [] => .nil
  | x :: xs => .cons (h x) (da_of h xs)
/-- from a place-wise fact -/
theorem da_mk : ∀ {vs : List V} {ds : List PyData}, vs.length = ds.length → (∀ (i : Nat) (v : V) (d : PyData), vs[i]? = some v → ds[i]? = some d → Dp K H v d) → DpAll K H vs ds
  | [], [], _, _ => .nil
  | v :: vs, d :: ds, hl, h => .cons (h 0 v d rfl rfl) (da_mk (by simpa using hl) fun i v' d' e1 e2 => h (i + 1) v' d' (by simpa using e1) (by simpa using e2))
/-- the sequence at a: a list or a tuple -/
def SqS (K : Kf) (H : Hp) (a : Addr) (xs : List V) : Prop := SqL K H a xs ∨ SqT K H a xs
theorem SqS.ex {a : Addr} {xs : List V} (h : SqS K H a xs) (e : Ex H H') : SqS K H' a xs := h.imp (ex_l e) (ex_t e)
end
/-- the items of a list or a tuple -/
def seqD : PyData → Option (List PyData)
  | .list ds => some ds
  | .tuple ds => some ds
  | _ => none
theorem dp_seq {K : Kf} {H : Hp} {v : V} {d : PyData} {ds : List PyData} (h : Dp K H v d) (e : seqD d = some ds) : ∃ a xs, v = .ref a ∧ SqS K H a xs ∧ DpAll K H xs ds := by
  cases h with
  | lst hs ha => cases e; exact ⟨_, _, rfl, .inl hs, ha⟩
  | tup hs ha => cases e; exact ⟨_, _, rfl, .inr hs, ha⟩
  | non => cases e
  | bl b => cases e
  | int i => cases e
  | str x => cases e
/-- the type's name -/
def tyD : PyData → String
  | .none => "NoneType"
  | .bool _ => "bool"
  | .int _ => "int"
  | .str _ => "str"
  | .list _ => "list"
  | .tuple _ => "tuple"
  | .dict _ => "dict"
theorem dp_ty {K : Kf} {H : Hp} {v : V} {d : PyData} (h : Dp K H v d) : TyX K H v (.type (tyD d)) := by
  cases h with
  | non => exact .base .non
  | bl b => exact .base (.bl b)
  | int i => exact .base (.int i)
  | str x => exact .base (.str x)
  | lst hs ha =>
    rcases hs with (h | ⟨o, h⟩) | ⟨o, its, n, h, hc, _⟩
    · exact .base (.lst h)
    · exact .base (.frz h)
    · exact .kList h hc
  | tup hs ha =>
    rcases hs with (h | ⟨o, h⟩) | ⟨o, its, n, h, hc, _⟩
    · exact .base (.tup h)
    · exact .fTuple h
    · exact .kTuple h hc
def isIntD : PyData → Bool
  | .int _ => true
  | _ => false
def isBoolD : PyData → Bool
  | .bool _ => true
  | _ => false
theorem kit_int {K : Kf} (d : PyData) (h : ∀ x, d ≠ .dict x) : PySem.W.kitOne K (.type (tyD d)) (.type "int") = some (isIntD d || isBoolD d) := by
  cases d with
  | dict x => exact absurd rfl (h x)
  | none => exact kit_ty (by show kitB "NoneType" "int" = some false; decide +kernel)
  | bool b => exact kit_ty (by show kitB "bool" "int" = some true; decide +kernel)
  | int i => exact kit_ty (by show kitB "int" "int" = some true; decide +kernel)
  | str x => exact kit_ty (by show kitB "str" "int" = some false; decide +kernel)
  | list ds => exact kit_ty (by show kitB "list" "int" = some false; decide +kernel)
  | tuple ds => exact kit_ty (by show kitB "tuple" "int" = some false; decide +kernel)
theorem kit_bool {K : Kf} (d : PyData) (h : ∀ x, d ≠ .dict x) : PySem.W.kitOne K (.type (tyD d)) (.type "bool") = some (isBoolD d) := by
  cases d with
  | dict x => exact absurd rfl (h x)
  | none => exact kit_ty (by show kitB "NoneType" "bool" = some false; decide +kernel)
  | bool b => exact kit_ty (by show kitB "bool" "bool" = some true; decide +kernel)
  | int i => exact kit_ty (by show kitB "int" "bool" = some false; decide +kernel)
  | str x => exact kit_ty (by show kitB "str" "bool" = some false; decide +kernel)
  | list ds => exact kit_ty (by show kitB "list" "bool" = some false; decide +kernel)
  | tuple ds => exact kit_ty (by show kitB "tuple" "bool" = some false; decide +kernel)
theorem kit_list {K : Kf} (d : PyData) (h : ∀ x, d ≠ .dict x) : PySem.W.kitOne K (.type (tyD d)) (.type "list") = some (tyD d == "list") := by
  cases d with
  | dict x => exact absurd rfl (h x)
  | none => exact kit_ty (by show kitB "NoneType" "list" = some false; decide +kernel)
  | bool b => exact kit_ty (by show kitB "bool" "list" = some false; decide +kernel)
  | int i => exact kit_ty (by show kitB "int" "list" = some false; decide +kernel)
  | str x => exact kit_ty (by show kitB "str" "list" = some false; decide +kernel)
  | list ds => exact kit_ty (by show kitB "list" "list" = some true; decide +kernel)
  | tuple ds => exact kit_ty (by show kitB "tuple" "list" = some false; decide +kernel)
theorem kit_tuple {K : Kf} (d : PyData) (h : ∀ x, d ≠ .dict x) : PySem.W.kitOne K (.type (tyD d)) (.type "tuple") = some (tyD d == "tuple") := by
  cases d with
  | dict x => exact absurd rfl (h x)
  | none => exact kit_ty (by show kitB "NoneType" "tuple" = some false; decide +kernel)
  | bool b => exact kit_ty (by show kitB "bool" "tuple" = some false; decide +kernel)
  | int i => exact kit_ty (by show kitB "int" "tuple" = some false; decide +kernel)
  | str x => exact kit_ty (by show kitB "str" "tuple" = some false; decide +kernel)
  | list ds => exact kit_ty (by show kitB "list" "tuple" = some false; decide +kernel)
  | tuple ds => exact kit_ty (by show kitB "tuple" "tuple" = some true; decide +kernel)
theorem kit_seq {K : Kf} (d : PyData) (h : ∀ x, d ≠ .dict x) : PySem.W.kitAny K (.type (tyD d)) [.type "list", .type "tuple"] = some (seqD d).isSome := by
  refine kitAny_cons (kit_list d h) (fun _ => kitAny_cons (kit_tuple d h) (fun _ => ?_) fun z => ?_) fun z => ?_
  · rw [kitAny_nil]
    cases d with
    | dict x => exact absurd rfl (h x)
    | _ => first | rfl | simp_all [tyD, seqD]
  · cases d with
    | dict x => exact absurd rfl (h x)
    | _ => first | rfl | simp_all [tyD, seqD]
  · cases d with
    | dict x => exact absurd rfl (h x)
    | _ => first | rfl | simp_all [tyD, seqD]
theorem dp_nodict {K : Kf} {H : Hp} {v : V} {d : PyData} (h : Dp K H v d) : ∀ x, d ≠ .dict x := fun x e => by subst e; cases h
/-! ### the document's words -/
/-- a whole number from 0 and less than n -/
def belowD (n : Int) : PyData → Bool
  | .int i => decide (0 ≤ i) && decide (i < n)
  | _ => false
theorem below_int {n : Int} {d : PyData} (h : belowD n d = true) : ∃ i, d = .int i ∧ 0 ≤ i ∧ i < n := by
  cases d with
  | int i => simp [belowD] at h; exact ⟨i, rfl, h⟩
  | _ => simp [belowD] at h
def pairD (d : PyData) : Bool := match seqD d with
  | some ds => ds.length == 2
  | none => false
/-- one news: a moment and a kind -/
def newsD (k : Int) (d : PyData) : Option (Int × Int) := match seqD d with
  | some [a, b] => match a, b with
    | .int m, .int j => if (decide (0 ≤ m) && decide (m < 1000000)) && (decide (0 ≤ j) && decide (j < k)) then some (m, j) else none
    | _, _ => none
  | _ => none
/-- lateness: none or a number -/
abbrev Lat := List (Option Int)
def latV : Option Int → V
  | none => .non
  | some t => .int t
def latP : Option Int → PyData
  | none => .none
  | some t => .int t
theorem dp_lat {K : Kf} {H : Hp} (t : Option Int) : Dp K H (latV t) (latP t) := by
  cases t with
  | none => exact .non
  | some i => exact .int i
/-- so many news behind are told no later than t -/
def openAt (n : Int) : Option Int → Bool
  | none => true
  | some t => decide (n ≤ t)
def kindsAt (ls : Lat) (n : Int) : List Int := ((List.range ls.length).filter fun i => openAt n ((ls[i]?).getD none)).map Int.ofNat
def lateOf (heard : List Int) (m : Int) : Int := ((heard.filter fun x => decide (m < x)).length : Nat)
/-- is there anything wrong with this news behind those heard -/
def newsBad (ls : Lat) (heard : List Int) (d : PyData) : Bool := match newsD ls.length d with
  | none => true
  | some (m, j) => heard.contains m || !(openAt (lateOf heard m) ((ls[j.toNat]?).getD none))
def momentOf (d : PyData) : Int := match seqD d with
  | some (.int m :: _) => m
  | _ => 0
/-- the first place from i at which a story is none, the moments heard so far at hand -/
def faultFrom (ls : Lat) : List Int → Nat → List PyData → Option Int
  | _, _, [] => none
  | heard, i, d :: r => if newsBad ls heard d then some (i : Int) else faultFrom ls (heard ++ [momentOf d]) (i + 1) r
def toldFault (ls : Lat) (d : PyData) : Option Int := match seqD d with
  | none => some (-1)
  | some ds => if 400 < ds.length then some (-1 : Int) else faultFrom ls [] 0 ds
/-- lateness of k kinds, as data -/
def latBad (d : PyData) : Bool := match d with
  | .none => false
  | d => !(belowD 13 d)
def latFault (k : Nat) (d : PyData) : Option Int := match seqD d with
  | none => some (-1)
  | some ds => if ds.length ≠ k then some (-1) else (ds.findIdx? latBad).map fun i => (i : Int)
theorem openAt_in (ls : Lat) (n j : Int) (h0 : 0 ≤ j) (h1 : j < ls.length) : (j ∈ kindsAt ls n) ↔ openAt n ((ls[j.toNat]?).getD none) = true := by
  unfold kindsAt
  constructor
  · intro h
    obtain ⟨i, hi, e⟩ := List.mem_map.mp h
    obtain ⟨_, h2⟩ := List.mem_filter.mp hi
    have : j.toNat = i := by rw [← e]; rfl
    rw [this]; exact h2
  · intro h
    refine List.mem_map.mpr ⟨j.toNat, List.mem_filter.mpr ⟨List.mem_range.mpr (show j.toNat < ls.length by omega), h⟩, Int.toNat_of_nonneg h0⟩
end Fw
/-! the program's own defs -/
namespace Fw
open PySem PySem.Spec PyProof.Rows L2 Evl
def topS (i : Nat) : Stmt := PySem.Challenge.pw_forgetwhen_k37_whole_lateness_and_told_s.main.body.getD i (.Pass ⟨0, 0, 0, 0⟩)
/-- a def of the top, as it stands -/
structure Dfn (K : Kf) (mg : Str → Option Value) (nm : Str) (st : Stmt) (ps : List Str) (f : Addr) (fd : FuncData) : Prop where
  F : Fun K nm nm st f fd
  m : mg nm = some (.ref f)
  b : Binds K fd ps []
/-- the builtins are what they are -/
structure Blt (mg : Str → Option Value) : Prop where
  isi : mg "isinstance" = none
  int : mg "int" = none
  bool : mg "bool" = none
  list : mg "list" = none
  tuple : mg "tuple" = none
  len : mg "len" = none
  all : mg "all" = none
  enum : mg "enumerate" = none
  max : mg "max" = none
  min : mg "min" = none
  abs : mg "abs" = none
  range : mg "range" = none
  sorted : mg "sorted" = none
  repr : mg "repr" = none
theorem bt_int : bootBuiltins "int" = some (.type "int") := by first | boot_by_name | rfl | kernel_rfl
theorem bt_bool : bootBuiltins "bool" = some (.type "bool") := by first | boot_by_name | rfl | kernel_rfl
theorem bt_list : bootBuiltins "list" = some (.type "list") := by first | boot_by_name | rfl | kernel_rfl
theorem bt_tuple : bootBuiltins "tuple" = some (.type "tuple") := by first | boot_by_name | rfl | kernel_rfl
theorem bt_isi : bootBuiltins "isinstance" = some (.builtin "isinstance") := by first | boot_by_name | rfl | kernel_rfl
theorem bt_len : bootBuiltins "len" = some (.builtin "len") := by first | boot_by_name | rfl | kernel_rfl
theorem bt_all : bootBuiltins "all" = some (.builtin "all") := by first | boot_by_name | rfl | kernel_rfl
theorem bt_max : bootBuiltins "max" = some (.builtin "max") := by first | boot_by_name | rfl | kernel_rfl
theorem bt_min : bootBuiltins "min" = some (.builtin "min") := by first | boot_by_name | rfl | kernel_rfl
theorem bt_abs : bootBuiltins "abs" = some (.builtin "abs") := by first | boot_by_name | rfl | kernel_rfl
theorem bt_sorted : bootBuiltins "sorted" = some (.builtin "sorted") := by first | boot_by_name | rfl | kernel_rfl
theorem bt_repr : bootBuiltins "repr" = some (.builtin "repr") := by first | boot_by_name | rfl | kernel_rfl
section
variable {X : Cx} {k : Nat} {f : Addr} {fd : FuncData} {ps : List Str} {sp : Sp} {x : Str} {st : Stmt} {p pos : Pos} {e : Expr} {es : List Expr} {t : TA}
/-- a call of a def that lets nothing out -/
theorem pe_dfn (G : FnOk X.prog X.w X.K X.mg X.base CX0 k f fd ps sp) (D : Dfn X.K X.mg x st ps f fd) (hr : Room k X.A) (hg : Gl X x) (ha : PA X (e :: es) t) (hdb : (x == ("__debug__" : Str)) = false := by decide)
    (he : starEach (e :: es) X.env = (false, eval e X.env) :: starEach es X.env := by rfl) (hpl : (backTo pos (starEach es X.env)).any (·.1) = false := by rfl) :
    PE X (.Call (.Name x p) (e :: es) [] pos) (tCall sp [] E0 t) := pe_call G hr hg D.m D.F.kp D.b .nil pass0 ha hdb he hpl
/-- isinstance(e, c), isinstance(e, (c1, c2)) -/
theorem pe_isi {te : TE} {c : Str} {q : Pos} (B : Blt X.mg) (hgi : Gl X "isinstance") (hg : Gl X c) (hm : X.mg c = none) (n : String) (hv : bootBuiltins c = some (.type n)) (he : PE X e te) (hn : c ≠ "__name__" := by decide) (hd : (c == ("__debug__" : Str)) = false := by decide)
    (hs : starEach (e :: [.Name c q]) X.env = (false, eval e X.env) :: starEach [.Name c q] X.env := by rfl) (hs2 : starEach [.Name c q] X.env = (false, eval (.Name c q) X.env) :: starEach [] X.env := by rfl) (hpl : (backTo pos (starEach [.Name c q] X.env)).any (·.1) = false := by rfl) :
    PE X (.Call (.Name "isinstance" p) [e, .Name c q] [] pos) (tCB (rIsi X.K) (tCons te (tCons (tC (.ty n)) tNil))) :=
  pe_callB call_isi hgi B.isi bt_isi (pa_cons he (pa_cons (pe_bltn hg hm hv rfl hn hd) pa_nil hs2) hs) (by decide) (by decide) hs hpl
end
/-! ### promises of plain words: the answer, whatever came to be beside -/
/-- the answer is told, nothing that stood changes -/
def SpVal (R : List V → Hp → V → Prop) (n : Nat) : Sp := fun vs H Q _ => vs.length = n ∧ ∃ z, R vs H z ∧ ∀ H', Ex H H' → Q z H'
theorem SpVal.len {R : List V → Hp → V → Prop} {n : Nat} : ∀ vs H Q E, SpVal R n vs H Q E → vs.length = n := fun _ _ _ _ h => h.1
/-- a call of one, where something is known of its arguments -/
theorem ev_val {R : List V → Hp → V → Prop} {n : Nat} {ta : TA} {σ : L2.St} {H : Hp} {vs : List V} {z : V} (h : EvA ta σ H vs) (hn : vs.length = n) (hR : ∀ H1, Ex H H1 → R vs H1 z) : Ev (tCall (SpVal R n) [] E0 ta) σ H z :=
  ev_call h fun H1 e1 Q q E => by
    rw [List.append_nil]
    exact ⟨hn, z, hR H1 e1, q⟩
section
variable {K : Kf} {σ : L2.St} {H : Hp} {te : TE} {v : V} {d : PyData}
theorem ev_isi (n : String) {b : Bool} (h : Ev te σ H v) (hd : Dp K H v d) (hk : PySem.W.kitOne K (.type (tyD d)) (.type n) = some b) : Ev (tCB (rIsi K) (tCons te (tCons (tC (.ty n)) tNil))) σ H (.bl b) := fun H1 e Q q =>
  h H1 e _ fun H2 e2 => ⟨v, .ty n, .type (tyD d), .type n, b, rfl, .ty n, dp_ty (hd.ex (e.trans e2)), hk, q H2 e2⟩
end
section
variable {P : Program} {w : World} {K : Kf} {mg : Str → Option Value} {base : Heap}
/-! ### is_integer -/
abbrev sInt : Stmt := topS 6
def RInt (K : Kf) : List V → Hp → V → Prop := fun vs H z => ∃ v d, vs = [v] ∧ Dp K H v d ∧ z = .bl (isIntD d)
theorem scInt : FnScope ["value"] ["value"] (defScope sInt) := ⟨rfl, rfl, rfl, by decide +kernel, rfl, by decide +kernel, by decide +kernel⟩
theorem ok_int {f : Addr} {fd : FuncData} (D : Dfn K mg "is_integer" sInt ["value"] f fd) (B : Blt mg) : FnOk P w K mg base CX0 1 f fd ["value"] (SpVal (RInt K) 1) := by
  refine D.F.ok scInt SpVal.len (fun cdv A outer s H vs Q E hr h => ?_)
  obtain ⟨_, z, ⟨v, d, rfl, hd, rfl⟩, k⟩ := h
  refine ⟨_, pss_one (ps_ret (pe_and (pe_isi B (by rfl) (by rfl) B.int "int" bt_int (pv 0)) (pe_one (pe_not (pe_isi B (by rfl) (by rfl) B.bool "bool" bt_bool (pv 0)))))), ?_⟩
  have v0 : Ev (tVar 0) (start ["value"] [v]) H v := ev_var rfl
  refine s_ret (v := .bl (isIntD d)) (ev_is (ev_andV (ev_isi "int" v0 hd (kit_int d (dp_nodict hd))) fun _ => ev_notV (ev_isi "bool" v0 hd (kit_bool d (dp_nodict hd)))) ?_) k
  cases d <;> rfl
/-! ### is_number, is_below -/
def numD : PyData → Bool
  | .int i => decide (0 ≤ i)
  | _ => false
abbrev sNum : Stmt := topS 7
def RNum (K : Kf) : List V → Hp → V → Prop := fun vs H z => ∃ v d, vs = [v] ∧ Dp K H v d ∧ z = .bl (numD d)
theorem int_of {K : Kf} {H : Hp} {v : V} {d : PyData} (h : Dp K H v d) (e : isIntD d = true) : ∃ i, v = .int i ∧ d = .int i := by
  cases d with
  | int i => cases h; exact ⟨i, rfl, rfl⟩
  | _ => cases e
theorem ev_geI {σ : L2.St} {H : Hp} {ta tb : TE} {i j : Int} (ha : Ev ta σ H (.int i)) (hb : Ev tb σ H (.int j)) : Ev (tOp (rI0 fun i j => .bl (decide (j ≤ i))) ta tb) σ H (.bl (decide (j ≤ i))) := ev_op ha hb (rv_I0 (g := fun i j => .bl (decide (j ≤ i))))
theorem ev_ltI {σ : L2.St} {H : Hp} {ta tb : TE} {i j : Int} (ha : Ev ta σ H (.int i)) (hb : Ev tb σ H (.int j)) : Ev (tOp (rI0 fun i j => .bl (decide (i < j))) ta tb) σ H (.bl (decide (i < j))) := ev_op ha hb (rv_I0 (g := fun i j => .bl (decide (i < j))))
theorem ev_gtI {σ : L2.St} {H : Hp} {ta tb : TE} {i j : Int} (ha : Ev ta σ H (.int i)) (hb : Ev tb σ H (.int j)) : Ev (tOp (rI0 fun i j => .bl (decide (j < i))) ta tb) σ H (.bl (decide (j < i))) := ev_op ha hb (rv_I0 (g := fun i j => .bl (decide (j < i))))
theorem ev_eqI {σ : L2.St} {H : Hp} {ta tb : TE} {i j : Int} (ha : Ev ta σ H (.int i)) (hb : Ev tb σ H (.int j)) : Ev (tOp rEq ta tb) σ H (.bl (decide (i = j))) := ev_is (ev_op ha hb (rv_eq (x := .int i) (y := .int j) rfl)) (by simp)
theorem ev_neI {σ : L2.St} {H : Hp} {ta tb : TE} {i j : Int} (ha : Ev ta σ H (.int i)) (hb : Ev tb σ H (.int j)) : Ev (tOp rNe ta tb) σ H (.bl (!decide (i = j))) := ev_is (ev_op ha hb (rv_ne (x := .int i) (y := .int j) rfl)) (by simp)
theorem scNum : FnScope ["value"] ["value"] (defScope sNum) := ⟨rfl, rfl, rfl, by decide +kernel, rfl, by decide +kernel, by decide +kernel⟩
theorem ok_num {f : Addr} {fd : FuncData} (D : Dfn K mg "is_number" sNum ["value"] f fd) {f1 : Addr} {fd1 : FuncData} (D1 : Dfn K mg "is_integer" sInt ["value"] f1 fd1) (B : Blt mg) : FnOk P w K mg base CX0 2 f fd ["value"] (SpVal (RNum K) 1) := by
  refine D.F.ok scNum SpVal.len (fun cdv A outer s H vs Q E hr h => ?_)
  obtain ⟨_, z, ⟨v, d, rfl, hd, rfl⟩, k⟩ := h
  refine ⟨_, pss_one (ps_ret (pe_and (pe_dfn (ok_int D1 B) D1 hr (by rfl) (pa_cons (pv 0) pa_nil)) (pe_one (pe_cmpR op_ge (pv 0) pe_int (nomark _))))), ?_⟩
  have v0 : Ev (tVar 0) (start ["value"] [v]) H v := ev_var rfl
  refine s_ret (v := .bl (numD d)) (ev_is (ev_andV (ev_val (R := RInt K) (ea_cons v0 ea_nil) rfl fun H1 e1 => ⟨v, d, rfl, hd.ex e1, rfl⟩) (b := numD d) fun hi => ?_) ?_) k
  · obtain ⟨i, rfl, rfl⟩ := int_of hd hi
    exact ev_geI v0 ev_c
  · cases d <;> simp [isIntD, numD]
abbrev sBelow : Stmt := topS 8
def RBelow (K : Kf) : List V → Hp → V → Prop := fun vs H z => ∃ v d n, vs = [v, .int n] ∧ Dp K H v d ∧ z = .bl (belowD n d)
theorem scBelow : FnScope ["value", "many"] ["value", "many"] (defScope sBelow) := ⟨rfl, rfl, rfl, by decide +kernel, rfl, by decide +kernel, by decide +kernel⟩
/-- the three plain words of numbers -/
structure DNum (K : Kf) (mg : Str → Option Value) (f1 f2 f3 : Addr) (fd1 fd2 fd3 : FuncData) : Prop where
  d1 : Dfn K mg "is_integer" sInt ["value"] f1 fd1
  d2 : Dfn K mg "is_number" sNum ["value"] f2 fd2
  d3 : Dfn K mg "is_below" sBelow ["value", "many"] f3 fd3
theorem ok_below {f1 f2 f3 : Addr} {fd1 fd2 fd3 : FuncData} (D : DNum K mg f1 f2 f3 fd1 fd2 fd3) (B : Blt mg) : FnOk P w K mg base CX0 3 f3 fd3 ["value", "many"] (SpVal (RBelow K) 2) := by
  refine D.d3.F.ok scBelow SpVal.len (fun cdv A outer s H vs Q E hr h => ?_)
  obtain ⟨_, z, ⟨v, d, n, rfl, hd, rfl⟩, k⟩ := h
  refine ⟨_, pss_one (ps_ret (pe_and (pe_dfn (ok_num D.d2 D.d1 B) D.d2 hr (by rfl) (pa_cons (pv 0) pa_nil)) (pe_one (pe_cmpR op_lt (pv 0) (pv 1) (nomark _))))), ?_⟩
  have v0 : Ev (tVar 0) (start ["value", "many"] [v, .int n]) H v := ev_var rfl
  have v1 : Ev (tVar 1) (start ["value", "many"] [v, .int n]) H (.int n) := ev_var rfl
  refine s_ret (v := .bl (belowD n d)) (ev_is (ev_andV (ev_val (R := RNum K) (ea_cons v0 ea_nil) rfl fun H1 e1 => ⟨v, d, rfl, hd.ex e1, rfl⟩) (b := belowD n d) fun hi => ?_) ?_) k
  · obtain ⟨i, rfl, rfl⟩ := int_of hd (by cases d <;> first | rfl | cases hi)
    refine ev_is (ev_ltI v0 v1) ?_
    have h0 : (0 : Int) ≤ i := by simpa [numD] using hi
    simp [belowD, h0]
  · cases d with
    | int i => by_cases h0 : (0 : Int) ≤ i <;> simp [numD, belowD, h0]
    | _ => rfl
/-! ### is_sequence, is_pair -/
abbrev sSeq : Stmt := topS 9
def RSeq (K : Kf) : List V → Hp → V → Prop := fun vs H z => ∃ v d, vs = [v] ∧ Dp K H v d ∧ z = .bl (seqD d).isSome
theorem scSeq : FnScope ["value"] ["value"] (defScope sSeq) := ⟨rfl, rfl, rfl, by decide +kernel, rfl, by decide +kernel, by decide +kernel⟩
/-- isinstance(e, (list, tuple)) -/
def tIsSeq (K : Kf) (te : TE) : TE := tCB (rIsiT K) (tCons te (tCons (tTup (tCons (tC (.ty "list")) (tCons (tC (.ty "tuple")) tNil))) tNil))
theorem pe_isSeq {X : Cx} {te : TE} {e : Expr} {p q q2 q3 pos : Pos} {kk : Nat} (B : Blt X.mg) (hgi : Gl X "isinstance") (h1 : Gl X "list") (h2 : Gl X "tuple") (he : PE X e te)
    (hs : starEach (e :: [.Tuple [.Name "list" q, .Name "tuple" q2] kk q3]) X.env = (false, eval e X.env) :: starEach [.Tuple [.Name "list" q, .Name "tuple" q2] kk q3] X.env := by rfl) (hpl : (backTo pos (starEach [.Tuple [.Name "list" q, .Name "tuple" q2] kk q3] X.env)).any (·.1) = false := by rfl) :
    PE X (.Call (.Name "isinstance" p) [e, .Tuple [.Name "list" q, .Name "tuple" q2] kk q3] [] pos) (tIsSeq X.K te) :=
  pe_callB call_isiT hgi B.isi bt_isi (pa_cons he (pa_cons (pe_tup (pa_cons (pe_bltn h1 B.list bt_list rfl) (pa_cons (pe_bltn h2 B.tuple bt_tuple rfl) pa_nil))) pa_nil) hs) (by decide) (by decide) hs hpl
theorem ev_isSeq {σ : L2.St} {H : Hp} {te : TE} {v : V} {d : PyData} (h : Ev te σ H v) (hd : Dp K H v d) : Ev (tIsSeq K te) σ H (.bl (seqD d).isSome) := fun H1 e Q q =>
  h H1 e _ fun H2 e2 => ⟨sz_of (by decide), fun p hp => ⟨v, p, [.ty "list", .ty "tuple"], .type (tyD d), [.type "list", .type "tuple"], (seqD d).isSome, rfl, upd_same, .cons (.ty "list") (.cons (.ty "tuple") .nil), dp_ty (hd.ex ((e.trans e2).trans (Ex.new hp))), kit_seq d (dp_nodict hd), q _ (e2.trans (Ex.new hp))⟩⟩
theorem ok_seq {f : Addr} {fd : FuncData} (D : Dfn K mg "is_sequence" sSeq ["value"] f fd) (B : Blt mg) : FnOk P w K mg base CX0 1 f fd ["value"] (SpVal (RSeq K) 1) := by
  refine D.F.ok scSeq SpVal.len (fun cdv A outer s H vs Q E hr h => ?_)
  obtain ⟨_, z, ⟨v, d, rfl, hd, rfl⟩, k⟩ := h
  refine ⟨_, pss_one (ps_ret (pe_isSeq B (by rfl) (by rfl) (by rfl) (pv 0))), ?_⟩
  exact s_ret (ev_isSeq (ev_var rfl) hd) k
abbrev sPair : Stmt := topS 10
def RPair (K : Kf) : List V → Hp → V → Prop := fun vs H z => ∃ v d, vs = [v] ∧ Dp K H v d ∧ z = .bl (pairD d)
theorem scPair : FnScope ["value"] ["value"] (defScope sPair) := ⟨rfl, rfl, rfl, by decide +kernel, rfl, by decide +kernel, by decide +kernel⟩
theorem ev_lenS {σ : L2.St} {H : Hp} {te : TE} {a : Addr} {xs : List V} (h : Ev te σ H (.ref a)) (hs : SqS K H a xs) : Ev (tCB (rLenS K) (tCons te tNil)) σ H (.int (xs.length : Int)) := fun H1 e Q q =>
  h H1 e _ fun H2 e2 => ⟨a, xs, rfl, hs.ex (e.trans e2), q H2 e2⟩
/-- len(e) -/
theorem pe_len {X : Cx} {te : TE} {e : Expr} {p pos : Pos} (B : Blt X.mg) (hg : Gl X "len") (he : PE X e te) (hs : starEach (e :: []) X.env = (false, eval e X.env) :: starEach [] X.env := by rfl) (hpl : (backTo pos (starEach [] X.env)).any (·.1) = false := by rfl) :
    PE X (.Call (.Name "len" p) [e] [] pos) (tCB (rLenS X.K) (tCons te tNil)) := pe_callB call_len_seq hg B.len bt_len (pa_cons he pa_nil hs) (by decide) (by decide) hs hpl
/-- the two plain words of sequences -/
structure DSeq (K : Kf) (mg : Str → Option Value) (f1 f2 : Addr) (fd1 fd2 : FuncData) : Prop where
  d1 : Dfn K mg "is_sequence" sSeq ["value"] f1 fd1
  d2 : Dfn K mg "is_pair" sPair ["value"] f2 fd2
theorem ok_pair {f1 f2 : Addr} {fd1 fd2 : FuncData} (D : DSeq K mg f1 f2 fd1 fd2) (B : Blt mg) : FnOk P w K mg base CX0 2 f2 fd2 ["value"] (SpVal (RPair K) 1) := by
  refine D.d2.F.ok scPair SpVal.len (fun cdv A outer s H vs Q E hr h => ?_)
  obtain ⟨_, z, ⟨v, d, rfl, hd, rfl⟩, k⟩ := h
  refine ⟨_, pss_one (ps_ret (pe_and (pe_dfn (ok_seq D.d1 B) D.d1 hr (by rfl) (pa_cons (pv 0) pa_nil)) (pe_one (pe_cmpR op_eq (pe_len B (by rfl) (pv 0)) pe_int (nomark _))))), ?_⟩
  have v0 : Ev (tVar 0) (start ["value"] [v]) H v := ev_var rfl
  refine s_ret (v := .bl (pairD d)) (ev_is (ev_andV (ev_val (R := RSeq K) (ea_cons v0 ea_nil) rfl fun H1 e1 => ⟨v, d, rfl, hd.ex e1, rfl⟩) (b := pairD d) fun hi => ?_) ?_) k
  · obtain ⟨ds, hs⟩ := Option.isSome_iff_exists.mp hi
    obtain ⟨a, xs, rfl, hq, ha⟩ := dp_seq hd hs
    refine ev_is (ev_eqI (ev_lenS v0 hq) ev_c) ?_
    have e : ((xs.length : Int) = 2) ↔ ds.length = 2 := by rw [da_len ha]; omega
    by_cases z : ds.length = 2 <;> simp [pairD, hs, e, z]
  · unfold pairD
    cases seqD d <;> rfl
end
end Fw
/-! machines: is_row_below, need_machine -/
namespace Fw
open PySem PySem.Spec PyProof.Rows L2 Evl
/-- the constants of the program's modules -/
structure Cst (mg : Str → Option Value) : Prop where
  states : ∃ t, mg "MOST_STATES" = some (.int 8 t)
  kinds : ∃ t, mg "MOST_KINDS" = some (.int 4 t)
  reading : ∃ t, mg "READING_BOUND" = some (.int 100 t)
  moment : ∃ t, mg "MOMENT_BOUND" = some (.int 1000000 t)
  news : ∃ t, mg "MOST_NEWS" = some (.int 400 t)
  late : ∃ t, mg "LATENESS_BOUND" = some (.int 13 t)
theorem pe_cst {X : Cx} {x : Str} {i : Int} {p : Pos} (hg : Gl X x) (h : ∃ t, X.mg x = some (.int i t)) (hd : (x == ("__debug__" : Str)) = false := by decide) : PE X (.Name x p) (tC (.int i)) := by
  obtain ⟨t, h⟩ := h
  exact pe_glob hg h ⟨t, rfl⟩ hd
/-- all words that the later defs lean on -/
structure Wd (K : Kf) (mg : Str → Option Value) (g1 g2 g3 g4 g5 : Addr) (e1 e2 e3 e4 e5 : FuncData) : Prop where
  B : Blt mg
  C : Cst mg
  N : DNum K mg g1 g2 g3 e1 e2 e3
  S : DSeq K mg g4 g5 e4 e5
/-! ### a comprehension over a sequence, its element and its test pure -/
section
variable {K : Kf} {σ : L2.St} {H : Hp} {te tl : TE} {t : TT}
/-- over a list or a tuple -/
theorem el_lcS {a : Addr} {xs : List V} {j : Nat} {vs : List Nat} (f : Nat → Bool) (v : Nat → V) (h : Ev tl σ H (.ref a)) (hx : SqS K H a xs) (hz : xs.length ≤ 40000) (hw : ∀ x, wipe ((wipe σ vs).set j (some x)) vs = wipe σ vs)
    (ht : ∀ (i : Nat) (x : V) H1, Ex H H1 → xs[i]? = some x → EvT t ((wipe σ vs).set j (some x)) H1 (f i)) (he : ∀ (i : Nat) (x : V) H1, Ex H H1 → xs[i]? = some x → f i = true → Ev te ((wipe σ vs).set j (some x)) H1 (v i)) :
    EvL (tLc (iSeq K tl) (gName j) t te vs) σ H (given xs.length f v) := fun H0 e Q q => h H0 e _ fun H1 e1 => by
  have w0 : ∀ {J : It} {G : Hp → Prop}, Walk J xs.length G (YAt xs) → (∀ H', Ex H1 H' → G H') → ∀ Dl, H1 Dl = none → _ := fun {J G} wk hG Dl hD =>
    lc_it (g := gName j) (tt := t) (te := te) (vs := vs) (σ := σ) (H1 := H1) (D := Dl) (Qd := fun H => Q (.ref Dl) H) wk (Cw H1 f v Dl) ⟨hD, Ex.new hD, upd_same⟩ (fun i H' _ p => hG H' p.2.1)
      (fun i x H' H'' hi p y => by
        obtain ⟨rfl, hx⟩ := y
        exact ⟨hw x, cw_turn p (by omega) (ht i x H1 (e.trans e1) hx) (fun hf => he i x H1 (e.trans e1) hx hf)⟩)
      (fun H' p => q Dl H' (fresh_back e1 p.1) (e1.trans p.2.1) p.2.2)
  refine ⟨a, xs, rfl, hx.imp (fun hl => ⟨ex_l (e.trans e1) hl, ?_⟩) fun hl => ⟨ex_t (e.trans e1) hl, ?_⟩⟩
  · exact w0 walk_list fun H' e' => ex_l ((e.trans e1).trans e') hl
  · exact w0 walk_tup fun H' e' => ex_t ((e.trans e1).trans e') hl
theorem given_all {n : Nat} {v : Nat → V} : given n (fun _ => true) v = (List.range n).map v := by
  unfold given
  rw [List.filter_eq_self.mpr (fun _ _ => rfl)]
theorem ey {σ : L2.St} {H : Hp} : EvT tYes σ H true := fun H1 e Q q => q H1 (Ex.refl H1)
/-- all([..]) -/
theorem ev_allL {bs : List Bool} (h : EvL te σ H (bs.map V.bl)) : Ev (tCB (rAll K) (tCons te tNil)) σ H (.bl (bs.all id)) := fun H1 e Q q =>
  h H1 e _ fun p H2 _ e2 hp => ⟨p, bs, rfl, sq_of hp, q H2 e2⟩
end
section
variable {P : Program} {w : World} {K : Kf} {mg : Str → Option Value} {base : Heap} {g1 g2 g3 g4 g5 : Addr} {e1 e2 e3 e4 e5 : FuncData}
/-! ### is_row_below, of rows that are -/
abbrev sRow : Stmt := topS 15
def RRow (K : Kf) : List V → Hp → V → Prop := fun vs H z => ∃ (a : Addr) (ns : List Int) (n : Nat) (b : Int), vs = [.ref a, .int n, .int b] ∧ SqT K H a (ns.map V.int) ∧ ns.length = n ∧ n ≤ 100 ∧ (∀ x ∈ ns, 0 ≤ x ∧ x < b) ∧ z = .bl true
theorem scRow : FnScope ["value", "length", "bound", "number"] ["value", "length", "bound"] (defScope sRow) := ⟨rfl, rfl, rfl, by decide +kernel, rfl, by decide +kernel, by decide +kernel⟩
theorem ok_row {f : Addr} {fd : FuncData} (D : Dfn K mg "is_row_below" sRow ["value", "length", "bound"] f fd) (W : Wd K mg g1 g2 g3 g4 g5 e1 e2 e3 e4 e5) : FnOk P w K mg base CX0 4 f fd ["value", "length", "bound"] (SpVal (RRow K) 3) := by
  refine D.F.ok scRow SpVal.len (fun cdv A outer s H vs Q E hr h => ?_)
  obtain ⟨_, z, ⟨a, ns, n, b, rfl, hs, hl, hn, hb, rfl⟩, k⟩ := h
  have B := W.B
  refine ⟨_, pss_one (ps_ret (pe_and (pe_dfn (ok_seq W.S.d1 B) W.S.d1 (hr.mono (by decide)) (by rfl) (pa_cons (pv 0) pa_nil))
    (pe_and (pe_cmpR op_eq (pe_len B (by rfl) (pv 0)) (pv 1) (nomark _))
    (pe_one (pe_callB (cr_all rfl) (by rfl) B.all bt_all (pa_cons
      (pe_lc (own := [("number", 3)]) rfl scRow.nd (pi_seq (pv 0)) (blkOk_by (by rfl)) (fun _ _ _ _ _ => pg_name (i := 3) scRow.nd rfl (Or.inl rfl)) (fun _ _ _ _ _ => pts_nil)
        (fun _ _ _ _ _ => pe_dfn (ok_below W.N B) W.N.d3 hr (by rfl) (pa_cons (pv 3) (pa_cons (pv 2) pa_nil)))) pa_nil)))))), ?_⟩
  have v0 : Ev (tVar 0) (start ["value", "length", "bound", "number"] [.ref a, .int n, .int b]) H (.ref a) := ev_var rfl
  have hsq : SqS K H a (ns.map V.int) := .inr hs
  refine s_ret (v := .bl true) ?_ k
  refine ev_is (ev_andV (ev_val (R := RSeq K) (ea_cons v0 ea_nil) rfl fun H1 e1 => ⟨_, .tuple (ns.map PyData.int), rfl, .tup (ex_t e1 hs) (da_ints ns), rfl⟩) fun _ =>
    ev_andV (ev_eqI (ev_lenS v0 hsq) (ev_var (i := 1) (v := .int n) rfl)) fun _ => ev_allL (bs := ns.map fun _ => true) ?_) ?_
  · have hl2 : (ns.map V.int).length ≤ 40000 := by rw [List.length_map]; omega
    have q := el_lcS (K := K) (σ := start ["value", "length", "bound", "number"] [.ref a, .int n, .int b]) (j := 3) (vs := [3]) (t := tYes) (te := tCall (SpVal (RBelow K) 2) [] E0 (tCons (tVar 3) (tCons (tVar 2) tNil))) (fun _ => true) (fun _ => .bl true) v0 hsq hl2 (fun x => rfl) (fun i x H1 e1 hx => ey) (fun i x H1 e1 hx _ => by
      rw [List.getElem?_map] at hx
      obtain ⟨y, hy, rfl⟩ := Option.map_eq_some_iff.mp hx
      have hm := hb y (List.mem_of_getElem? hy)
      exact ev_val (R := RBelow K) (vs := [.int y, .int b]) (ea_cons (ev_var rfl) (ea_cons (ev_var rfl) ea_nil)) rfl fun H2 e2 => ⟨.int y, .int y, b, rfl, .int y, by simp [belowD, hm.1, hm.2]⟩)
    have e : given (ns.map V.int).length (fun _ => true) (fun _ => V.bl true) = (ns.map fun _ => true).map V.bl := by
      rw [given_all, List.length_map]
      simp [List.map_const']
    rw [e] at q
    exact q
  · simp [seqD, hl]
end
/-- tuple(e), list(e) of a list or a tuple -/
def rTupS (K : Kf) : List V → Hp → VK → Prop := fun xs H Q => ∃ p ys, xs = [.ref p] ∧ ((SqL K H p ys ∧ ∀ l, H l = none → Q (.ref l) (upd H l (.tup ys))) ∨ (SqT K H p ys ∧ Q (.ref p) H))
theorem pe_tuple {X : Cx} {te : TE} {e : Expr} {p pos : Pos} (B : Blt X.mg) (hg : Gl X "tuple") (he : PE X e te) (hs : starEach (e :: []) X.env = (false, eval e X.env) :: starEach [] X.env := by rfl) (hpl : (backTo pos (starEach [] X.env)).any (·.1) = false := by rfl) :
    PE X (.Call (.Name "tuple" p) [e] [] pos) (tCB (rTupS X.K) (tCons te tNil)) := pe_callTy call_tuple_of hg B.tuple bt_tuple (pa_cons he pa_nil hs) (by decide) (by decide) hs hpl
theorem pe_list {X : Cx} {te : TE} {e : Expr} {p pos : Pos} (B : Blt X.mg) (hg : Gl X "list") (he : PE X e te) (hs : starEach (e :: []) X.env = (false, eval e X.env) :: starEach [] X.env := by rfl) (hpl : (backTo pos (starEach [] X.env)).any (·.1) = false := by rfl) :
    PE X (.Call (.Name "list" p) [e] [] pos) (tCB (rListS X.K) (tCons te tNil)) := pe_callTy call_list_of hg B.list bt_list (pa_cons he pa_nil hs) (by decide) (by decide) hs hpl
theorem pe_tupleB (K : Kf) {X : Cx} {te : TE} {e : Expr} {p pos : Pos} (hK : X.K = K) (B : Blt X.mg) (hg : Gl X "tuple") (he : PE X e te) (hs : starEach (e :: []) X.env = (false, eval e X.env) :: starEach [] X.env := by rfl) (hpl : (backTo pos (starEach [] X.env)).any (·.1) = false := by rfl) :
    PE X (.Call (.Name "tuple" p) [e] [] pos) (tCB (rTupS K) (tCons te tNil)) := by
  rw [← hK]
  exact pe_tuple B hg he hs hpl
theorem pe_listB (K : Kf) {X : Cx} {te : TE} {e : Expr} {p pos : Pos} (hK : X.K = K) (B : Blt X.mg) (hg : Gl X "list") (he : PE X e te) (hs : starEach (e :: []) X.env = (false, eval e X.env) :: starEach [] X.env := by rfl) (hpl : (backTo pos (starEach [] X.env)).any (·.1) = false := by rfl) :
    PE X (.Call (.Name "list" p) [e] [] pos) (tCB (rListS K) (tCons te tNil)) := by
  rw [← hK]
  exact pe_list B hg he hs hpl
/-! ### what a machine is -/
def rowP (ns : List Int) : PyData := .tuple (ns.map PyData.int)
def macP (nss : List (List Int)) (rs : List Int) : PyData := .tuple [.tuple (nss.map rowP), rowP rs]
structure MacOk (nss : List (List Int)) (rs : List Int) : Prop where
  k1 : 1 ≤ nss.length
  k4 : nss.length ≤ 4
  n1 : 1 ≤ rs.length
  n8 : rs.length ≤ 8
  row : ∀ ns ∈ nss, ns.length = rs.length ∧ ∀ x ∈ ns, 0 ≤ x ∧ x < (rs.length : Int)
  shown : ∀ x ∈ rs, 0 ≤ x ∧ x < 100
/-- a machine of k kinds -/
def MacV (K : Kf) (H : Hp) (v : V) (k : Nat) : Prop := ∃ nss rs, Dp K H v (macP nss rs) ∧ MacOk nss rs ∧ nss.length = k
theorem MacV.ex {K : Kf} {H H' : Hp} {v : V} {k : Nat} (h : MacV K H v k) (e : Ex H H') : MacV K H' v k := let ⟨a, b, c, d⟩ := h; ⟨a, b, c.ex e, d⟩
theorem da_intsInv {K : Kf} {H : Hp} : ∀ {ns : List Int} {vs : List V}, DpAll K H vs (ns.map PyData.int) → vs = ns.map V.int
  | [], _, h => by cases h; rfl
  | n :: ns, _, h => by
    cases h with
    | cons h1 h2 =>
      cases h1
      rw [da_intsInv h2]
      rfl
theorem dp_row {K : Kf} {H : Hp} {v : V} {ns : List Int} (h : Dp K H v (rowP ns)) : ∃ a, v = .ref a ∧ SqT K H a (ns.map V.int) := by
  cases h with
  | tup hs ha =>
    rw [da_intsInv ha] at hs
    exact ⟨_, rfl, hs⟩
theorem dp_mac {K : Kf} {H : Hp} {v : V} {nss : List (List Int)} {rs : List Int} (h : Dp K H v (macP nss rs)) : ∃ a b c rows, v = .ref a ∧ SqT K H a [.ref b, .ref c] ∧ SqT K H b rows ∧ DpAll K H rows (nss.map rowP) ∧ SqT K H c (rs.map V.int) := by
  cases h with
  | tup hs ha =>
    cases ha with
    | cons h1 h2 =>
      cases h2 with
      | cons h2 h3 =>
        cases h3
        obtain ⟨c, rfl, hc⟩ := dp_row h2
        cases h1 with
        | tup hs1 ha1 => exact ⟨_, _, _, _, rfl, hs, hs1, ha1, hc⟩
section
variable {K : Kf} {σ : L2.St} {H : Hp} {ta tb : TE}
theorem ev_ixT {a : Addr} {xs : List V} {i : Int} {v : V} (h : Ev ta σ H (.ref a)) (hi : Ev tb σ H (.int i)) (hs : SqT K H a xs) (hv : atI xs i = some v) : Ev (tOp (rIx K) ta tb) σ H v :=
  ev_op h hi fun H1 e Q q => .inr (.inl ⟨a, xs, i, v, rfl, rfl, ex_t e hs, hv, q H1 (Ex.refl H1)⟩)
theorem ev_ixS {a : Addr} {xs : List V} {i : Int} {v : V} (h : Ev ta σ H (.ref a)) (hi : Ev tb σ H (.int i)) (hs : SqS K H a xs) (hv : atI xs i = some v) : Ev (tOp (rIx K) ta tb) σ H v :=
  ev_op h hi fun H1 e Q q => hs.elim (fun hs => .inl ⟨a, xs, i, v, rfl, rfl, ex_l e hs, hv, q H1 (Ex.refl H1)⟩) fun hs => .inr (.inl ⟨a, xs, i, v, rfl, rfl, ex_t e hs, hv, q H1 (Ex.refl H1)⟩)
/-- a <= e <= b of ints -/
theorem et_chain {tc : TE} {r r' : R2} {x y z : V} {b1 b2 : Bool} (ha : Ev ta σ H x) (hb : Ev tb σ H y) (hr : RV r x y H (.bl b1)) (hc : b1 = true → Ev tc σ H z) (hr' : b1 = true → RV r' y z H (.bl b2)) : EvT (tTest (tChain r r' ta tb tc)) σ H (b1 && b2) := fun H1 e Q q =>
  ha H1 e _ fun H2 e2 => hb H2 (e.trans e2) _ fun H3 e3 => hr H3 ((e.trans e2).trans e3) _ fun H4 e4 => ⟨b1, rfl, by
    cases b1 with
    | false => exact ⟨false, rfl, q H4 ((e2.trans e3).trans e4)⟩
    | true => exact hc rfl H4 (((e.trans e2).trans e3).trans e4) _ fun H5 e5 => hr' rfl H5 ((((e.trans e2).trans e3).trans e4).trans e5) _ fun H6 e6 => ⟨b2, rfl, q H6 ((((e2.trans e3).trans e4).trans e5).trans e6)⟩⟩
end
section
variable {K : Kf} {σ : L2.St} {H : Hp} {te : TE}
/-- tuple of a new list; of a tuple -/
theorem eu_tupleL {xs : List V} (h : EvL te σ H xs) : EvU (tCB (rTupS K) (tCons te tNil)) σ H xs := fun H1 e Q q =>
  h H1 e _ fun p H2 _ e2 hp => ⟨p, xs, rfl, .inl ⟨sq_of hp, fun l hl => q l _ (fresh_back e2 hl) (e2.trans (Ex.new hl)) upd_same⟩⟩
theorem ev_tupleT {a : Addr} {xs : List V} (h : Ev te σ H (.ref a)) (hs : SqT K H a xs) : Ev (tCB (rTupS K) (tCons te tNil)) σ H (.ref a) := fun H1 e Q q =>
  h H1 e _ fun H2 e2 => ⟨a, xs, rfl, .inr ⟨ex_t (e.trans e2) hs, q H2 e2⟩⟩
theorem ev_neg {i : Int} : Ev (tUn (rU fun i => .int (-i)) (tC (.int i))) σ H (.int (-i)) := ev_un ev_c ru_neg
theorem ev_leI {ta tb : TE} {i j : Int} (ha : Ev ta σ H (.int i)) (hb : Ev tb σ H (.int j)) : Ev (tOp (rI0 fun i j => .bl (decide (i ≤ j))) ta tb) σ H (.bl (decide (i ≤ j))) := ev_op ha hb (rv_I0 (g := fun i j => .bl (decide (i ≤ j))))
end
/-- an error of the class at C that tells i, whatever came to be beside -/
def ErrAt (C : Addr) (i : Int) (H : Hp) (E : XK) : Prop := ∀ d H', Ex H H' → H' d = some (.xd [("at", .int i)]) → E (.ref C) (some d) H'
theorem ErrAt.ex {C : Addr} {i : Int} {H H' : Hp} {E : XK} (h : ErrAt C i H E) (e : Ex H H') : ErrAt C i H' E := fun d H2 e2 => h d H2 (e.trans e2)
/-- raise C(i) -/
theorem s_raise {C : Addr} {i : Int} {E : XK} {D : Ends} {σ : L2.St} {H : Hp} {te : TE} (h : Ev te σ H (.int i)) (k : ErrAt C i H E) : tRaiseAt C (fun cls d _ H => E cls d H) (tCons te tNil) D σ H :=
  h H (Ex.refl H) _ fun H1 e1 => ⟨.int i, rfl, fun d hd => k d _ (e1.trans (Ex.new hd)) upd_same⟩
section
variable {P : Program} {w : World} {K : Kf} {mg : Str → Option Value} {base : Heap} {g1 g2 g3 g4 g5 : Addr} {e1 e2 e3 e4 e5 : FuncData}
/-! ### need_machine -/
abbrev sMach : Stmt := topS 16
/-- a machine is handed in, or none -/
def spMach (K : Kf) (CM : Addr) : Sp := fun vs H Q E => ∃ v, vs = [v] ∧ ((∃ k, MacV K H v k ∧ ∀ p q x rs H', Ex H H' → H' p = some (.tup [.ref q, x]) → H' q = some (.tup rs) → rs.length = k → Q (.ref p) H') ∨ (v = .non ∧ ErrAt CM (-1) H E))
theorem scMach : FnScope ["value", "maps", "readings", "kind", "row"] ["value"] (defScope sMach) := ⟨rfl, rfl, rfl, by decide +kernel, rfl, by decide +kernel, by decide +kernel⟩
theorem ok_mach {f f6 CM fI : Addr} {fd fd6 : FuncData} (D : Dfn K mg "need_machine" sMach ["value"] f fd) (D6 : Dfn K mg "is_row_below" sRow ["value", "length", "bound"] f6 fd6) (W : Wd K mg g1 g2 g3 g4 g5 e1 e2 e3 e4 e5)
    (T : AtTxt P K mg CM fI) (gM : mg "InvalidMachine" = some (.ref CM)) : FnOk P w K mg base (L2.CX P w) 5 f fd ["value"] (spMach K CM) := by
  refine D.F.okX scMach (fun vs H Q E h => ?_) (fun cdv A outer s H vs Q E hr h => ?_)
  · obtain ⟨v, rfl, _⟩ := h
    rfl
  obtain ⟨v, rfl, h⟩ := h
  have B := W.B
  have hr1 : Room 1 _ := hr.mono (by decide)
  have hr2 : Room 2 _ := hr.mono (by decide)
  refine ⟨_, pss_cons (ps_if (pw_or (pt_not (pt_val (pe_dfn (ok_pair W.S B) W.S.d2 hr2 (by rfl) (pa_cons (pv 0) pa_nil))))
      (pw_or (pt_not (pt_val (pe_dfn (ok_seq W.S.d1 B) W.S.d1 hr1 (by rfl) (pa_cons (pe_ix ix_seq (pv 0) pe_int (fun _ _ => rfl)) pa_nil))))
      (pw_or1 (pt_not (pt_val (pe_dfn (ok_seq W.S.d1 B) W.S.d1 hr1 (by rfl) (pa_cons (pe_ix ix_seq (pv 0) pe_int (fun _ _ => rfl)) pa_nil))))))).pt
      (pss_one (ps_raiseAt rfl T gM hr (takes_of rfl rfl rfl rfl) (pa_cons (pe_un un_neg pe_int) pa_nil) (by rfl))) pss_nil)
    (pss_cons (ps_asg (pv 0) (pg_tup rfl (pgs_cons (pg_name (i := 1) scMach.nd rfl (.inl rfl)) (pgs_cons (pg_name (i := 2) scMach.nd rfl (.inl rfl)) pgs_nil))))
    (pss_cons (ps_if (pw_or (pt_not (pt_chain op_le op_le pe_int (pe_len B (by rfl) (pv 1)) (pe_cst (by rfl) W.C.kinds)))
      (pw_or1 (pt_not (pt_chain op_le op_le pe_int (pe_len B (by rfl) (pv 2)) (pe_cst (by rfl) W.C.states))))).pt
      (pss_one (ps_raiseAt rfl T gM hr (takes_of rfl rfl rfl rfl) (pa_cons (pe_un un_neg pe_int) pa_nil) (by rfl))) pss_nil)
    (pss_cons (ps_for (passes_of rfl) rfl (pi_enumS (by rfl) B.enum (pa_cons (pv 1) pa_nil)) (pg_tup rfl (pgs_cons (pg_name (i := 3) scMach.nd rfl (.inl rfl)) (pgs_cons (pg_name (i := 4) scMach.nd rfl (.inl rfl)) pgs_nil)))
      (pss_one (ps_if (pt_not (pt_val (pe_dfn (ok_row D6 W) D6 hr (by rfl) (pa_cons (pv 4) (pa_cons (pe_len B (by rfl) (pv 2)) (pa_cons (pe_len B (by rfl) (pv 2)) pa_nil))))))
        (pss_one (ps_raiseAt rfl T gM hr (takes_of rfl rfl rfl rfl) (pa_cons (pv 3) pa_nil) (by rfl))) pss_nil)))
    (pss_cons (ps_if (pt_not (pt_val (pe_dfn (ok_row D6 W) D6 hr (by rfl) (pa_cons (pv 2) (pa_cons (pe_len B (by rfl) (pv 2)) (pa_cons (pe_cst (by rfl) W.C.reading) pa_nil))))))
        (pss_one (ps_raiseAt rfl T gM hr (takes_of rfl rfl rfl rfl) (pa_cons (pe_len B (by rfl) (pv 1)) pa_nil) (by rfl))) pss_nil)
    (pss_one (ps_ret (pe_tup (pa_cons (pe_tuple B (by rfl)
        (pe_lc (own := [("row", 4)]) rfl scMach.nd (pi_seq (pv 1)) (blkOk_by (by rfl)) (fun _ _ _ _ _ => pg_name (i := 4) scMach.nd rfl (Or.inl rfl)) (fun _ _ _ _ _ => pts_nil)
          (fun _ _ _ _ _ => pe_tupleB K rfl B (by rfl) (pv 4))))
      (pa_cons (pe_tuple B (by rfl) (pv 2)) pa_nil))))))))), ?_⟩
  rcases h with ⟨kk, ⟨nss, rs, hd, ok, hkk⟩, k⟩ | ⟨rfl, k⟩
  · obtain ⟨a, b, c, rows, rfl, hA, hB, hR, hC⟩ := dp_mac hd
    have hrl : rows.length = nss.length := by rw [da_len hR, List.length_map]
    have v0 : Ev (tVar 0) (start ["value", "maps", "readings", "kind", "row"] [.ref a]) H (.ref a) := ev_var rfl
    -- the shape
    refine q_when (b := false) (et_or (a := false) (b := false) (et_not (et_B (b := true) (ev_val (R := RPair K) (vs := [.ref a]) (ea_cons v0 ea_nil) rfl fun H1 e1 => ⟨_, _, rfl, hd.ex e1, rfl⟩)))
      fun _ => et_or (a := false) (b := false) (et_not (et_B (b := true) (ev_val (R := RSeq K) (vs := [.ref b]) (ea_cons (ev_ixT v0 ev_c hA rfl) ea_nil) rfl fun H1 e1 => ⟨_, _, rfl, .tup (ex_t e1 hB) (hR.ex e1), rfl⟩)))
      fun _ => et_not (et_B (b := true) (ev_val (R := RSeq K) (vs := [.ref c]) (ea_cons (ev_ixT v0 ev_c hA rfl) ea_nil) rfl fun H1 e1 => ⟨_, _, rfl, .tup (ex_t e1 hC) (da_ints _), rfl⟩))) (fun z => nomatch z) fun _ H1 e1 => ?_
    -- maps, readings = value
    refine ⟨_, rfl, a, _, rfl, ex_t e1 hA, rfl, _, _, rfl, _, _, rfl, rfl, ?_⟩
    have hB1 : SqT K H1 b rows := ex_t e1 hB
    have hC1 : SqT K H1 c (rs.map V.int) := ex_t e1 hC
    have lm : ∀ {σ : L2.St} {H : Hp}, Ex H1 H → σ[1]? = some (some (.ref b)) → Ev (tCB (rLenS K) (tCons (tVar 1) tNil)) σ H (.int (nss.length : Int)) := fun {σ H} e h1 => by
      rw [← hrl]; exact ev_lenS (ev_var h1) (.inr (ex_t e hB1))
    have lr : ∀ {σ : L2.St} {H : Hp}, Ex H1 H → σ[2]? = some (some (.ref c)) → Ev (tCB (rLenS K) (tCons (tVar 2) tNil)) σ H (.int (rs.length : Int)) := fun {σ H} e h1 => by
      have z := ev_lenS (σ := σ) (H := H) (te := tVar 2) (ev_var h1) (.inr (ex_t e hC1) : SqS K H c _)
      rw [List.length_map] at z
      exact z
    have b1 : decide ((1 : Int) ≤ (nss.length : Int)) = true := by have := ok.k1; simp; omega
    have b2 : decide ((nss.length : Int) ≤ 4) = true := by have := ok.k4; simp; omega
    have b3 : decide ((1 : Int) ≤ (rs.length : Int)) = true := by have := ok.n1; simp; omega
    have b4 : decide ((rs.length : Int) ≤ 8) = true := by have := ok.n8; simp; omega
    refine q_when (b := false) (et_or (a := false) (b := false) (et_not (a := true) (et_is (et_chain (b1 := decide ((1 : Int) ≤ (nss.length : Int))) (b2 := decide ((nss.length : Int) ≤ 4)) ev_c (lm (Ex.refl _) rfl) (rv_I0 (g := fun i j => .bl (decide (i ≤ j)))) (fun _ => ev_c) fun _ => rv_I0 (g := fun i j => .bl (decide (i ≤ j)))) (by rw [b1, b2]; rfl)))
      fun _ => et_not (a := true) (et_is (et_chain (b1 := decide ((1 : Int) ≤ (rs.length : Int))) (b2 := decide ((rs.length : Int) ≤ 8)) ev_c (lr (Ex.refl _) rfl) (rv_I0 (g := fun i j => .bl (decide (i ≤ j)))) (fun _ => ev_c) fun _ => rv_I0 (g := fun i j => .bl (decide (i ≤ j)))) (by rw [b3, b4]; rfl))) (fun z => nomatch z) fun _ H2 e2 => ?_
    have row_ok : ∀ {σ : L2.St} {H : Hp} {te tb : TE} {p : Addr} {ns : List Int} {bd : Int}, Ex H1 H → SqT K H p (ns.map V.int) → ns.length = rs.length → (∀ x ∈ ns, 0 ≤ x ∧ x < bd) → σ[2]? = some (some (.ref c)) → Ev te σ H (.ref p) → Ev tb σ H (.int bd) →
        EvT (tNot (tB (tCall (SpVal (RRow K) 3) [] E0 (tCons te (tCons (tCB (rLenS K) (tCons (tVar 2) tNil)) (tCons tb tNil)))))) σ H false := fun {σ H te tb p ns bd} e hp hl hx h2 ht hb =>
      et_not (a := true) (et_B (ev_val (R := RRow K) (vs := [.ref p, .int rs.length, .int bd]) (ea_cons ht (ea_cons (lr e h2) (ea_cons hb ea_nil))) rfl fun H3 e3 => ⟨p, ns, rs.length, bd, rfl, ex_t e3 hp, hl, by have := ok.n8; omega, hx, rfl⟩))
    -- the rows
    refine ⟨_, rfl, b, rows, rfl, .inr ⟨ex_t e2 hB1, for_it walk_G (fun i σ H => (∃ x y, σ = [some (.ref a), some (.ref b), some (.ref c), x, y]) ∧ Ex H1 H) ⟨⟨_, _, rfl⟩, e2⟩ (fun i σ H _ p => ex_t p.2 hB1) ?_ ?_⟩⟩
    · rintro i x σ H3 H4 hi ⟨⟨x0, y0, rfl⟩, e3⟩ ⟨T0, x1, y, rfl, hT, rfl, hx1, hy⟩
      cases hx1
      have e4 : Ex H1 (upd H3 T0 (.tup [.int (i : Nat), y])) := e3.trans (Ex.new hT)
      obtain ⟨d, hd1, hd2⟩ := da_get hR hy
      rw [List.getElem?_map] at hd1
      obtain ⟨ns, hns, rfl⟩ := Option.map_eq_some_iff.mp hd1
      obtain ⟨p, rfl, hp⟩ := dp_row (hd2.ex (e1.trans e4))
      have hmem := ok.row ns (List.mem_of_getElem? hns)
      refine ⟨T0, _, rfl, st_of upd_same, rfl, _, _, rfl, _, _, rfl, rfl, ?_⟩
      exact s_when (b := false) (row_ok e4 hp hmem.1 hmem.2 rfl (ev_var rfl) (lr e4 rfl)) (fun z => nomatch z) fun _ H5 e5 => ⟨⟨_, _, rfl⟩, e4.trans e5⟩
    · rintro σ H3 ⟨⟨x0, y0, rfl⟩, e3⟩
      refine q_when (b := false) (row_ok e3 (ex_t e3 hC1) rfl ok.shown rfl (ev_var rfl) ev_c) (fun z => nomatch z) fun _ H4 e4 => ?_
      have e04 : Ex H1 H4 := e3.trans e4
      -- the answer
      have q : EvL (tLc (iSeq K (tVar 1)) (gName 4) tYes (tCB (rTupS K) (tCons (tVar 4) tNil)) [4]) [some (.ref a), some (.ref b), some (.ref c), x0, y0] H4 rows := by
        have q := el_lcS (K := K) (σ := [some (.ref a), some (.ref b), some (.ref c), x0, y0]) (H := H4) (j := 4) (vs := [4]) (t := tYes) (te := tCB (rTupS K) (tCons (tVar 4) tNil)) (tl := tVar 1) (a := b) (xs := rows) (fun _ => true) (fun i => rows.getD i .non) (ev_var rfl) (.inr (ex_t e04 hB1)) (by have := ok.k4; omega) (fun x => rfl) (fun i x H5 e5 hx => ey) (fun i x H5 e5 hx _ => by
          obtain ⟨d, hd1, hd2⟩ := da_get hR hx
          rw [List.getElem?_map] at hd1
          obtain ⟨ns, hns, rfl⟩ := Option.map_eq_some_iff.mp hd1
          obtain ⟨p, rfl, hp⟩ := dp_row (hd2.ex ((e1.trans e04).trans e5))
          have ez : rows.getD i .non = .ref p := by rw [List.getD_eq_getElem?_getD, hx]; rfl
          rw [ez]
          exact ev_tupleT (ev_var rfl) hp)
        have e : given rows.length (fun _ => true) (fun i => rows.getD i .non) = rows := by
          rw [given_all]
          refine List.ext_getElem? fun i => ?_
          rw [List.getElem?_map]
          by_cases hi : i < rows.length
          · simp [hi, List.getElem?_range]
          · simp [hi, List.getElem?_range]
        rw [e] at q
        exact q
      refine eu_tupleL q H4 (Ex.refl _) _ fun q0 H5 hq e5 hq5 => ev_tupleT (xs := rs.map V.int) (H := H4) (a := c) (ev_var rfl) (ex_t e04 hC1) H5 e5 _ fun H6 e6 => ⟨sz_of (by show 2 ≤ 100000; decide), fun p hp => ?_⟩
      exact k p q0 (.ref c) rows _ ((((e1.trans e04).trans e5).trans e6).trans (Ex.new hp)) upd_same (Ex.new hp _ _ (e6 _ _ hq5)) (by rw [hrl, hkk])
  · have v0 : Ev (tVar 0) (start ["value", "maps", "readings", "kind", "row"] [.non]) H .non := ev_var rfl
    exact q_when (b := true) (et_or (a := true) (b := false) (et_not (a := false) (et_B (ev_val (R := RPair K) (vs := [.non]) (ea_cons v0 ea_nil) rfl fun H1 e1 => ⟨.non, .none, rfl, .non, rfl⟩))) (fun z => nomatch z)) (fun _ H1 e1 => s_raise ev_neg (k.ex e1)) (fun z => nomatch z)
end
end Fw
/-! comprehensions and loops: the forms of this law -/
namespace Fw
open PySem PySem.Spec PyProof.Rows L2 Evl
/-! ### heaps: one address hidden; the box that changes -/
def hide (D : Addr) (H : Hp) : Hp := fun a => if a = D then none else H a
theorem hide_ne {D a : Addr} {H : Hp} (h : a ≠ D) : hide D H a = H a := if_neg h
theorem hide_at {D a : Addr} {H : Hp} {o : HO} (h : H a = some o) (hn : a ≠ D) : hide D H a = some o := (hide_ne hn).trans h
theorem hide_ex {D : Addr} {H1 H : Hp} (e : Ex H1 H) (h : H1 D = none) : Ex H1 (hide D H) := fun a o ha => hide_at (e a o ha) (ne_of_none ha h)
theorem hide_upd {D : Addr} {H : Hp} {o : HO} : Ex (hide D H) (upd H D o) := fun a u ha => by
  by_cases z : a = D
  · unfold hide at ha; rw [if_pos z] at ha; cases ha
  · rw [hide_ne z] at ha; rw [upd_ne z]; exact ha
theorem hide_le {D : Addr} {H : Hp} : Ex (hide D H) H := fun a u ha => by
  by_cases z : a = D
  · unfold hide at ha; rw [if_pos z] at ha; cases ha
  · rw [hide_ne z] at ha; exact ha
/-- three numbers -/
def Box (H : Hp) (b : Addr) : Prop := ∃ x y z : Int, H b = some (.lst [.int x, .int y, .int z])
/-- all but the boxes stay, the boxes stay boxes -/
structure Bx (S : Addr → Prop) (H H' : Hp) : Prop where
  keep : ∀ a o, ¬ S a → H a = some o → H' a = some o
  box : ∀ b, S b → Box H b → Box H' b
def noB : Addr → Prop := fun _ => False
def oneB (b : Addr) : Addr → Prop := fun a => a = b
theorem Bx.refl {S : Addr → Prop} (H : Hp) : Bx S H H := ⟨fun _ _ _ h => h, fun _ _ h => h⟩
theorem Bx.trans {S : Addr → Prop} {H H1 H2 : Hp} (a : Bx S H H1) (b : Bx S H1 H2) : Bx S H H2 := ⟨fun c o n h => b.keep c o n (a.keep c o n h), fun c h x => b.box c h (a.box c h x)⟩
theorem Bx.of {S : Addr → Prop} {H H' : Hp} (e : Ex H H') : Bx S H H' := ⟨fun a o _ h => e a o h, fun b _ ⟨x, y, z, h⟩ => ⟨x, y, z, e b _ h⟩⟩
theorem Bx.ex {H H' : Hp} (h : Bx noB H H') : Ex H H' := fun a o e => h.keep a o (fun z => z) e
section
variable {K : Kf}
/-- what the boxes do not hold -/
structure Off (S : Addr → Prop) (H H' : Hp) : Prop where
  keep : ∀ a o, ¬ S a → H a = some o → H' a = some o
theorem bx_new {S : Addr → Prop} {H1 H : Hp} {D : Addr} {o : HO} (h : Bx S H1 H) (hS : ∀ b, S b → Box H1 b) (hD : H1 D = none) : Bx S H1 (upd H D o) := by
  have nS : ¬ S D := fun z => by obtain ⟨x, y, w, e⟩ := hS D z; rw [hD] at e; cases e
  refine ⟨fun a u hn e => ?_, fun b hb x => ?_⟩
  · rw [upd_ne (ne_of_none e hD)]; exact h.keep a u hn e
  · have z : b ≠ D := fun q => nS (q ▸ hb)
    obtain ⟨x, y, w, e⟩ := h.box b hb x
    exact ⟨x, y, w, by rw [upd_ne z]; exact e⟩
/-- a comprehension without tests: each turn gives one value of which P tells -/
theorem lc_gen {J : It} {n : Nat} {G : Hp → Prop} {Y : Nat → Hp → V → Hp → Prop} (wk : Walk J n G Y) {g : TG} {te : TE} {vs : List Nat} {σ : L2.St} {H1 : Hp} {D : Addr} {Qd : Hp → Prop} (S : Addr → Prop) (hS : ∀ b, S b → Box H1 b) (P : Nat → Hp → V → Prop)
    (mono : ∀ i y H H', (∀ a o, ¬ S a → H a = some o → H' a = some o) → P i H y → P i H' y) (hn : n ≤ 50000) (hD : H1 D = none) (hG : ∀ H', Bx S H1 H' → G H')
    (hs : ∀ i x H H', i < n → Bx S H1 H → H D ≠ none → Y i H x H' → ∀ Qn : VK, (∀ y H4, Bx S H H4 → P i (hide D H4) y → Qn y H4) → g x (wipe σ vs) H' fun σ2 H2 => wipe σ2 vs = wipe σ vs ∧ te σ2 H2 Qn)
    (hd : ∀ H acc, Bx S H1 H → H D = some (.lst acc) → acc.length = n → (∀ (i : Nat) (y : V), acc[i]? = some y → P i (hide D H) y) → Qd H) :
    ∃ W : Nat → Nat → Hp → Prop, (∃ m, W 0 m (upd H1 D (.lst []))) ∧ ∀ i m H, W i m H →
      (J.stop i H ∧ Qd H) ∨ (J.go i H ∧ ∃ Nx : Hp → Prop, (∀ H', Nx H' → ∃ m', m' < m ∧ W (i + 1) m' H') ∧ ∀ x H', J.yld i H x H' → g x (wipe σ vs) H' fun σ2 H2 => wipe σ2 vs = wipe σ vs ∧ tYes σ2 H2 fun b H3 =>
        if b = true then te σ2 H3 fun y H4 => ∃ acc, H4 D = some (.lst acc) ∧ acc.length < sizeLine ∧ Nx (upd H4 D (.lst (acc ++ [y]))) else Nx H3) := by
  have nS : ¬ S D := fun z => by obtain ⟨x, y, w, e⟩ := hS D z; rw [hD] at e; cases e
  refine lc_it wk (fun i H => Bx S H1 H ∧ ∃ acc, H D = some (.lst acc) ∧ acc.length = i ∧ ∀ (j : Nat) (y : V), acc[j]? = some y → P j (hide D H) y) ⟨bx_new (Bx.refl _) hS hD, [], upd_same, rfl, fun j y e => by simp at e⟩ (fun i H _ p => hG H p.1) (fun i x H H' hi p y => ?_) (fun H p => ?_)
  · obtain ⟨b, acc, hacc, hl, hP⟩ := p
    refine hs i x H H' hi b (by rw [hacc]; exact fun z => nomatch z) y (fun v H4 => ∃ acc, H4 D = some (.lst acc) ∧ acc.length < sizeLine ∧ (Bx S H1 (upd H4 D (.lst (acc ++ [v]))) ∧ ∃ acc', (upd H4 D (.lst (acc ++ [v]))) D = some (.lst acc') ∧ acc'.length = i + 1 ∧ ∀ (j : Nat) (y : V), acc'[j]? = some y → P j (hide D (upd H4 D (.lst (acc ++ [v])))) y)) fun v H4 b4 p4 => ?_
    have h4 : H4 D = some (.lst acc) := b4.keep D _ nS hacc
    refine ⟨acc, h4, sz_lt (by omega), bx_new (b.trans b4) hS hD, acc ++ [v], upd_same, by simp [hl], fun j u e => ?_⟩
    have off : ∀ a o, hide D H4 a = some o → hide D (upd H4 D (.lst (acc ++ [v]))) a = some o := fun a o e => by
      by_cases z : a = D
      · unfold hide at e; rw [if_pos z] at e; cases e
      · rw [hide_ne z] at e ⊢; rw [upd_ne z]; exact e
    rcases Nat.lt_or_ge j acc.length with h | h
    · rw [List.getElem?_append_left h] at e
      refine mono j u _ _ (fun a o hn q => off a o ?_) (hP j u e)
      by_cases z : a = D
      · unfold hide at q; rw [if_pos z] at q; cases q
      · rw [hide_ne z] at q ⊢; exact b4.keep a o hn q
    · rw [List.getElem?_append_right h] at e
      have ej : j - acc.length = 0 := by
        rcases Nat.eq_zero_or_pos (j - acc.length) with z | z
        · exact z
        · rw [List.getElem?_eq_none (by simp; omega)] at e; cases e
      have : j = i := by omega
      subst this
      rw [ej] at e
      cases e
      exact mono _ _ _ _ (fun a o _ q => off a o q) p4
  · obtain ⟨b, acc, hacc, hl, hP⟩ := p
    exact hd H acc b hacc hl hP
end
/-- filtered places of a list -/
theorem given_list {α : Type} (xs : List α) (f : α → Bool) (v : α → V) (d : α) : given xs.length (fun i => f (xs.getD i d)) (fun i => v (xs.getD i d)) = (xs.filter f).map v := by
  have e : (List.range xs.length).map (fun i => xs.getD i d) = xs := by
    refine List.ext_getElem? fun i => ?_
    rw [List.getElem?_map]
    by_cases hi : i < xs.length
    · simp [hi, List.getElem?_range]
    · simp [hi, List.getElem?_range]
  unfold given
  conv => rhs; rw [← e]
  rw [List.filter_map, List.map_map]
  rfl
theorem getD_of {α : Type} {xs : List α} {i : Nat} {x d : α} (h : xs[i]? = some x) : xs.getD i d = x := by rw [List.getD_eq_getElem?_getD, h]; rfl
section
variable {K : Kf} {σ : L2.St} {H : Hp} {te tl ta tb : TE} {t : TT} {D : Ends} {tz : TS}
/-- a sequence comes, perhaps a new one -/
def EvS (K : Kf) (te : TE) (σ : L2.St) (H : Hp) (xs : List V) : Prop := ∀ H1, Ex H H1 → ∀ Q : VK, (∀ p H2, Ex H1 H2 → SqS K H2 p xs → Q (.ref p) H2) → te σ H1 Q
theorem es_of {a : Addr} {xs : List V} (h : Ev te σ H (.ref a)) (hs : SqS K H a xs) : EvS K te σ H xs := fun H1 e Q q => h H1 e _ fun H2 e2 => q a H2 e2 (hs.ex (e.trans e2))
theorem es_L {xs : List V} (h : EvL te σ H xs) : EvS K te σ H xs := fun H1 e Q q => h H1 e _ fun p H2 _ e2 hp => q p H2 e2 (.inl (sq_of hp))
/-- a comprehension over it, its element and its test pure -/
theorem el_lcQ {xs : List V} {j : Nat} {vs : List Nat} (f : Nat → Bool) (v : Nat → V) (h : EvS K tl σ H xs) (hz : xs.length ≤ 40000) (hw : ∀ x, wipe ((wipe σ vs).set j (some x)) vs = wipe σ vs)
    (ht : ∀ (i : Nat) (x : V) H1, Ex H H1 → xs[i]? = some x → EvT t ((wipe σ vs).set j (some x)) H1 (f i)) (he : ∀ (i : Nat) (x : V) H1, Ex H H1 → xs[i]? = some x → f i = true → Ev te ((wipe σ vs).set j (some x)) H1 (v i)) :
    EvL (tLc (iSeq K tl) (gName j) t te vs) σ H (given xs.length f v) := fun H0 e Q q => h H0 e _ fun a H1 e1 hx => by
  have w0 : ∀ {J : It} {G : Hp → Prop}, Walk J xs.length G (YAt xs) → (∀ H', Ex H1 H' → G H') → ∀ Dl, H1 Dl = none → _ := fun {J G} wk hG Dl hD =>
    lc_it (g := gName j) (tt := t) (te := te) (vs := vs) (σ := σ) (H1 := H1) (D := Dl) (Qd := fun H => Q (.ref Dl) H) wk (Cw H1 f v Dl) ⟨hD, Ex.new hD, upd_same⟩ (fun i H' _ p => hG H' p.2.1)
      (fun i x H' H'' hi p y => by
        obtain ⟨rfl, hx⟩ := y
        exact ⟨hw x, cw_turn p (by omega) (ht i x H1 (e.trans e1) hx) (fun hf => he i x H1 (e.trans e1) hx hf)⟩)
      (fun H' p => q Dl H' (fresh_back e1 p.1) (e1.trans p.2.1) p.2.2)
  refine ⟨a, xs, rfl, hx.imp (fun hl => ⟨hl, ?_⟩) fun hl => ⟨hl, ?_⟩⟩
  · exact w0 walk_list fun H' e' => ex_l e' hl
  · exact w0 walk_tup fun H' e' => ex_t e' hl
/-- over enumerate(..) of it -/
theorem el_lcE {xs : List V} {j l : Nat} {vs : List Nat} {ta : TA} {a : Addr} (f : Nat → Bool) (v : Nat → V) (h : EvA ta σ H [.ref a]) (hs : SqS K H a xs) (hz : xs.length ≤ 40000) (hw : ∀ x y, wipe (((wipe σ vs).set j (some x)).set l (some y)) vs = wipe σ vs)
    (ht : ∀ (i : Nat) (x : V) H1, Ex H H1 → xs[i]? = some x → EvT t (((wipe σ vs).set j (some (.int (i : Nat)))).set l (some x)) H1 (f i)) (he : ∀ (i : Nat) (x : V) H1, Ex H H1 → xs[i]? = some x → f i = true → Ev te (((wipe σ vs).set j (some (.int (i : Nat)))).set l (some x)) H1 (v i)) :
    EvL (tLc (iEnumS K ta) (gTup K 2 (gCons (gName j) (gCons (gName l) gNil))) t te vs) σ H (given xs.length f v) := fun H0 e Q q => h H0 e _ fun H1 e1 => by
  have w0 : ∀ {J : It} {G : Hp → Prop}, Walk J xs.length G (YPair (fun i => some (.int (i : Nat))) (fun i => xs[i]?)) → (∀ H', Ex H1 H' → G H') → ∀ Dl, H1 Dl = none → _ := fun {J G} wk hG Dl hD =>
    lc_it (g := gTup K 2 (gCons (gName j) (gCons (gName l) gNil))) (tt := t) (te := te) (vs := vs) (σ := σ) (H1 := H1) (D := Dl) (Qd := fun H => Q (.ref Dl) H) wk (Cw H1 f v Dl) ⟨hD, Ex.new hD, upd_same⟩ (fun i H' _ p => hG H' p.2.1)
      (fun i x H' H'' hi p y => by
        obtain ⟨T, x1, y1, rfl, hT, rfl, hx1, hy⟩ := y
        cases hx1
        have p2 : Cw H1 f v Dl i (upd H' T (.tup [.int (i : Nat), y1])) := ⟨p.1, p.2.1.trans (Ex.new hT), Ex.new hT _ _ p.2.2⟩
        refine ⟨T, _, rfl, st_of upd_same, rfl, _, _, rfl, _, _, rfl, rfl, hw _ _, ?_⟩
        exact cw_turn p2 (by omega) (ht i y1 H1 (e.trans e1) hy) (fun hf => he i y1 H1 (e.trans e1) hy hf))
      (fun H' p => q Dl H' (fresh_back e1 p.1) (e1.trans p.2.1) p.2.2)
  refine ⟨a, xs, rfl, (hs.ex (e.trans e1)).imp (fun hl => ⟨hl, ?_⟩) fun hl => ⟨hl, ?_⟩⟩
  · exact w0 walk_G fun H' e' => ex_l e' hl
  · exact w0 walk_G fun H' e' => ex_t e' hl
/-- for i, x in enumerate(..) -/
theorem s_forE {tu : TS} {g : TG} {ta : TA} {a : Addr} {xs : List V} (h : EvA ta σ H [.ref a]) (hs : SqS K H a xs) (Pv : Nat → L2.St → Hp → Prop) (h0 : ∀ H1, Ex H H1 → Pv 0 σ H1) (hx : ∀ i σ' H', i ≤ xs.length → Pv i σ' H' → Ex H H')
    (hst : ∀ i x σ' H' T, xs[i]? = some x → Pv i σ' H' → H' T = none → g (.ref T) σ' (upd H' T (.tup [.int (i : Nat), x])) fun σ2 H2 => tu { D with nx := Pv (i + 1), ct := Pv (i + 1), bk := D.nx } σ2 H2) (hd : ∀ σ' H', Pv xs.length σ' H' → D.nx σ' H') :
    tFor (iEnumS K ta) g tu D σ H := h H (Ex.refl H) _ fun H1 e1 => by
  have w0 : ∀ {J : It} {G : Hp → Prop}, Walk J xs.length G (YPair (fun i => some (.int (i : Nat))) (fun i => xs[i]?)) → (∀ H', Ex H H' → G H') → _ := fun {J G} wk hG =>
    for_it (g := g) (tb := tu) (D := D) (σ := σ) (H := H1) wk Pv (h0 H1 e1) (fun i σ' H' hi p => hG H' (hx i σ' H' hi p)) (fun i x σ' H' H'' hi p y => by
      obtain ⟨T, x1, y1, rfl, hT, rfl, hx1, hy⟩ := y
      cases hx1
      exact hst i y1 σ' H' T hy p hT) hd
  rcases hs with hl | hl
  · exact ⟨a, xs, rfl, .inl ⟨ex_l e1 hl, w0 walk_G fun H' e' => ex_l e' hl⟩⟩
  · exact ⟨a, xs, rfl, .inr ⟨ex_t e1 hl, w0 walk_G fun H' e' => ex_t e' hl⟩⟩
/-- [a] + [..] -/
theorem el_cat {xs ys : List V} (ha : EvL ta σ H xs) (hb : EvL tb σ H ys) (hz : xs.length + ys.length ≤ 100000) : EvL (tOp rCat ta tb) σ H (xs ++ ys) := fun H1 e Q q =>
  ha H1 e _ fun p H2 hp e2 h2 => hb H2 (e.trans e2) _ fun r H3 hr e3 h3 => ⟨p, r, xs, ys, rfl, rfl, e3 _ _ h2, h3, sz_of hz, fun l hl => q l _ (fresh_back (e2.trans e3) hl) ((e2.trans e3).trans (Ex.new hl)) upd_same⟩
theorem ev_lenL {xs : List V} (h : EvS K te σ H xs) : Ev (tCB (rLenS K) (tCons te tNil)) σ H (.int (xs.length : Int)) := fun H1 e Q q =>
  h H1 e _ fun p H2 e2 hp => ⟨p, xs, rfl, hp, q H2 e2⟩
end
end Fw
/-! news, lateness, stories -/
namespace Fw
open PySem PySem.Spec PyProof.Rows L2 Evl
section
variable {X : Cx} {k : Nat} {f : Addr} {fd : FuncData} {ps : List Str} {sp : Sp} {x : Str} {st : Stmt} {p pos : Pos} {e : Expr} {es : List Expr} {t : TA} {W : WX}
/-- a call of a def that may raise -/
theorem pe_dfx (G : FnOk X.prog X.w X.K X.mg X.base (L2.CX X.prog X.w) k f fd ps sp) (D : Dfn X.K X.mg x st ps f fd) (hr : Room k X.A) (hg : Gl X x) (tk : Takes X W) (ha : PA X (e :: es) t) (hdb : (x == ("__debug__" : Str)) = false := by decide)
    (he : starEach (e :: es) X.env = (false, eval e X.env) :: starEach es X.env := by rfl) (hpl : (backTo pos (starEach es X.env)).any (·.1) = false := by rfl) :
    PE X (.Call (.Name x p) (e :: es) [] pos) (tCallS sp (WE W) t) := pe_callS G hr hg D.m D.F.kp D.b (fun σ => passAt tk σ) ha hdb he hpl
end
theorem pg_pairB (K : Kf) {X : Cx} {a b : Str} {p q : Pos} {kk : Nat} {tp : Pos} {g h : TG} (hc : X.calm = true) (hK : X.K = K) (ha : PG X (.Name a p) g) (hb : PG X (.Name b q) h) : PG X (.Tuple [.Name a p, .Name b q] kk tp) (gTup K 2 (gCons g (gCons h gNil))) := by
  rw [← hK]
  exact pg_tup hc (pgs_cons ha (pgs_cons hb pgs_nil))
section
variable {P : Program} {w : World} {K : Kf} {mg : Str → Option Value} {base : Heap} {g1 g2 g3 g4 g5 : Addr} {e1 e2 e3 e4 e5 : FuncData}
/-! ### is_news -/
abbrev sNews : Stmt := topS 20
def RNews (K : Kf) : List V → Hp → V → Prop := fun vs H z => ∃ b rows v d, vs = [.ref b, v] ∧ SqT K H b rows ∧ Dp K H v d ∧ z = .bl (newsD rows.length d).isSome
theorem scNews : FnScope ["maps", "value"] ["maps", "value"] (defScope sNews) := ⟨rfl, rfl, rfl, by decide +kernel, rfl, by decide +kernel, by decide +kernel⟩
theorem news_pair {k : Int} {d : PyData} (h : pairD d = true) : ∃ x y, seqD d = some [x, y] ∧ (newsD k d).isSome = (belowD 1000000 x && belowD k y) := by
  unfold pairD at h
  cases e : seqD d with
  | none => rw [e] at h; cases h
  | some ds =>
    rw [e] at h
    match ds, h with
    | [x, y], _ =>
      refine ⟨x, y, rfl, ?_⟩
      unfold newsD
      rw [e]
      cases x <;> cases y <;> simp [belowD]
      split <;> simp_all
theorem news_nopair {k : Int} {d : PyData} (h : pairD d = false) : (newsD k d).isSome = false := by
  unfold pairD at h
  unfold newsD
  cases e : seqD d with
  | none => rfl
  | some ds =>
    rw [e] at h
    match ds, h with
    | [], _ => rfl
    | [_], _ => rfl
    | _ :: _ :: _ :: _, _ => rfl
theorem ok_news {f : Addr} {fd : FuncData} (D : Dfn K mg "is_news" sNews ["maps", "value"] f fd) (W : Wd K mg g1 g2 g3 g4 g5 e1 e2 e3 e4 e5) : FnOk P w K mg base CX0 4 f fd ["maps", "value"] (SpVal (RNews K) 2) := by
  refine D.F.ok scNews SpVal.len (fun cdv A outer s H vs Q E hr h => ?_)
  obtain ⟨_, z, ⟨b, rows, v, d, rfl, hb, hd, rfl⟩, k⟩ := h
  have B := W.B
  refine ⟨_, pss_one (ps_ret (pe_and (pe_dfn (ok_pair W.S B) W.S.d2 (hr.mono (by decide)) (by rfl) (pa_cons (pv 1) pa_nil))
    (pe_and (pe_dfn (ok_below W.N B) W.N.d3 hr (by rfl) (pa_cons (pe_ix ix_seq (pv 1) pe_int (fun _ _ => rfl)) (pa_cons (pe_cst (by rfl) W.C.moment) pa_nil)))
    (pe_one (pe_dfn (ok_below W.N B) W.N.d3 hr (by rfl) (pa_cons (pe_ix ix_seq (pv 1) pe_int (fun _ _ => rfl)) (pa_cons (pe_len B (by rfl) (pv 0)) pa_nil))))))), ?_⟩
  have v1 : Ev (tVar 1) (start ["maps", "value"] [.ref b, v]) H v := ev_var rfl
  cases hp : pairD d with
  | false =>
    refine s_ret (v := .bl (newsD rows.length d).isSome) (ev_is (ev_andV (a := false) (b := false) (ev_val (R := RPair K) (ea_cons v1 ea_nil) rfl fun H1 e1 => ⟨v, d, rfl, hd.ex e1, by rw [hp]⟩) (fun z => nomatch z)) ?_) k
    rw [news_nopair hp]; rfl
  | true =>
    obtain ⟨x, y, hs, hn⟩ := news_pair (k := rows.length) hp
    obtain ⟨a, xs, rfl, hq, ha⟩ := dp_seq hd hs
    cases ha with
    | cons h1 h2 =>
      cases h2 with
      | cons h2 h3 =>
        cases h3
        refine s_ret (v := .bl (newsD rows.length d).isSome) (ev_is (ev_andV (a := true) (b := belowD 1000000 x && belowD rows.length y) (ev_val (R := RPair K) (ea_cons v1 ea_nil) rfl fun H1 e1 => ⟨_, d, rfl, hd.ex e1, by rw [hp]⟩) fun _ =>
          ev_andV (ev_val (R := RBelow K) (ea_cons (ev_ixS v1 ev_c hq rfl) (ea_cons ev_c ea_nil)) rfl fun H1 e1 => ⟨_, x, _, rfl, h1.ex e1, rfl⟩) fun _ =>
          ev_val (R := RBelow K) (ea_cons (ev_ixS v1 ev_c hq rfl) (ea_cons (ev_lenS (ev_var rfl) (.inr hb)) ea_nil)) rfl fun H1 e1 => ⟨_, y, _, rfl, h2.ex e1, rfl⟩) ?_) k
        rw [hn]; rfl
/-! ### kinds_at -/
abbrev sKin : Stmt := topS 26
/-- a new tuple -/
def SpTup (R : List V → Hp → List V → Prop) (n : Nat) : Sp := fun vs H Q _ => vs.length = n ∧ ∃ xs, R vs H xs ∧ ∀ p H', Ex H H' → H' p = some (.tup xs) → Q (.ref p) H'
theorem SpTup.len {R : List V → Hp → List V → Prop} {n : Nat} : ∀ vs H Q E, SpTup R n vs H Q E → vs.length = n := fun _ _ _ _ h => h.1
def RKin (K : Kf) : List V → Hp → List V → Prop := fun vs H xs => ∃ a ls n, vs = [.ref a, .int n] ∧ SqT K H a (ls.map latV) ∧ ls.length ≤ 100 ∧ xs = (kindsAt ls n).map V.int
theorem scKin : FnScope ["lateness", "behind", "kind", "told"] ["lateness", "behind"] (defScope sKin) := ⟨rfl, rfl, rfl, by decide +kernel, rfl, by decide +kernel, by decide +kernel⟩
theorem ok_kin {f : Addr} {fd : FuncData} (D : Dfn K mg "kinds_at" sKin ["lateness", "behind"] f fd) (B : Blt mg) : FnOk P w K mg base CX0 1 f fd ["lateness", "behind"] (SpTup (RKin K) 2) := by
  refine D.F.ok scKin SpTup.len (fun cdv A outer s H vs Q E hr h => ?_)
  obtain ⟨_, xs, ⟨a, ls, n, rfl, hs, hl, rfl⟩, k⟩ := h
  refine ⟨_, pss_one (ps_ret (pe_tuple B (by rfl) (pe_lc (own := [("kind", 2), ("told", 3)]) rfl scKin.nd (pi_enumS (by rfl) B.enum (pa_cons (pv 0) pa_nil)) (blkOk_by (by rfl))
    (fun _ _ _ _ _ => pg_pairB K rfl rfl (pg_name (i := 2) scKin.nd rfl (.inl rfl)) (pg_name (i := 3) scKin.nd rfl (.inl rfl)))
    (fun _ _ _ _ _ => pts_one (pw_or (pt_cmpR op_isN (pv 3) pe_non (nomark _)) (pw_or1 (pt_cmpR op_ge (pv 3) (pv 1) (nomark _)))).pt)
    (fun _ _ _ _ _ => pv 2)))), ?_⟩
  have q := el_lcE (K := K) (σ := start ["lateness", "behind", "kind", "told"] [.ref a, .int n]) (H := H) (j := 2) (l := 3) (vs := [2, 3]) (ta := tCons (tVar 0) tNil) (a := a) (xs := ls.map latV)
    (t := tOr (tTest (tOp (fun x y H Q => y = .non ∧ Q (.bl (decide (x = .non))) H) (tVar 3) (tC .non))) (tTest (tOp (rI0 fun i j => .bl (decide (j ≤ i))) (tVar 3) (tVar 1)))) (te := tVar 2)
    (fun i => openAt n ((ls[i]?).getD none)) (fun i => .int (i : Nat)) (ea_cons (ev_var rfl) ea_nil) (.inr hs) (by rw [List.length_map]; omega) (fun x y => rfl) (fun i x H1 e1 hx => by
      rw [List.getElem?_map] at hx
      obtain ⟨y, hy, rfl⟩ := Option.map_eq_some_iff.mp hx
      rw [hy]
      cases y with
      | none => exact et_or (a := true) (b := false) (et_test (b := true) (ev_op (ev_var rfl) ev_c fun H2 e2 Q q => ⟨rfl, by simpa [latV] using q H2 (Ex.refl _)⟩)) (fun z => nomatch z)
      | some i => exact et_is (et_or (a := false) (b := decide (n ≤ i)) (et_test (b := false) (ev_op (ev_var rfl) ev_c fun H2 e2 Q q => ⟨rfl, by simpa [latV] using q H2 (Ex.refl _)⟩)) fun _ => et_test (ev_geI (ev_var rfl) (ev_var rfl))) (by simp [openAt])) (fun i x H1 e1 hx _ => ev_var rfl)
  refine eu_tupleL q H (Ex.refl _) _ fun p H1 hp e1 h1 => k p H1 e1 ?_
  rw [h1]
  simp [kindsAt, given, List.map_map, Function.comp_def]
/-! ### window_of -/
abbrev sWof : Stmt := topS 24
def winOf (ls : Lat) : Int := (ls.filterMap id).foldl max 0
theorem foldl_max (xs : List Int) : ∀ a : Int, (∀ y ∈ a :: xs, y ≤ xs.foldl max a) ∧ xs.foldl max a ∈ a :: xs := by
  induction xs with
  | nil => exact fun a => ⟨fun y hy => by simp at hy; subst hy; exact Int.le_refl _, by simp⟩
  | cons x xs ih =>
    intro a
    obtain ⟨h1, h2⟩ := ih (max a x)
    have hm := h1 (max a x) (by simp)
    refine ⟨fun y hy => ?_, ?_⟩
    · show y ≤ xs.foldl max (max a x)
      rcases List.mem_cons.mp hy with rfl | hy
      · exact Int.le_trans (Int.le_max_left _ _) hm
      · rcases List.mem_cons.mp hy with rfl | hy
        · exact Int.le_trans (Int.le_max_right _ _) hm
        · exact h1 y (List.mem_cons_of_mem _ hy)
    · show xs.foldl max (max a x) ∈ a :: x :: xs
      rcases List.mem_cons.mp h2 with z | z
      · rw [z]
        rcases Int.le_total a x with q | q
        · rw [Int.max_eq_right q]; simp
        · rw [Int.max_eq_left q]; simp
      · exact List.mem_cons_of_mem _ (List.mem_cons_of_mem _ z)
theorem win_only {ls : Lat} {m : Int} (h1 : m ∈ 0 :: ls.filterMap id) (h2 : ∀ y ∈ 0 :: ls.filterMap id, y ≤ m) : m = winOf ls := by
  obtain ⟨a, b⟩ := foldl_max (ls.filterMap id) 0
  exact Int.le_antisymm (a m h1) (h2 _ b)
def RWof (K : Kf) : List V → Hp → V → Prop := fun vs H z => ∃ a ls, vs = [.ref a] ∧ SqT K H a (ls.map latV) ∧ ls.length ≤ 100 ∧ z = .int (winOf ls)
theorem scWof : FnScope ["lateness", "told"] ["lateness"] (defScope sWof) := ⟨rfl, rfl, rfl, by decide +kernel, rfl, by decide +kernel, by decide +kernel⟩
/-- max([0] + [told for told in e if told is not None]): the slots of e and told -/
def tWin (K : Kf) (te : TE) (j : Nat) : TE := tCB (rMax K) (tCons (tOp rCat (tLst (tCons (tC (.int 0)) tNil)) (tLc (iSeq K te) (gName j) (tTest (tOp (fun x y H Q => y = .non ∧ Q (.bl (!decide (x = .non))) H) (tVar j) (tC .non))) (tVar j) [j])) tNil)
theorem ev_win {σ : L2.St} {H : Hp} {te : TE} {j : Nat} {a : Addr} {ls : Lat} (h : Ev te σ H (.ref a)) (hs : SqT K H a (ls.map latV)) (hl : ls.length ≤ 100) (hj : j < σ.length) : Ev (tWin K te j) σ H (.int (winOf ls)) := by
  have hset : ∀ x : V, ((wipe σ [j]).set j (some x))[j]? = some (some x) := fun x => by
    show ((σ.set j none).set j (some x))[j]? = some (some x)
    simp [hj]
  have hw : ∀ x : V, wipe ((wipe σ [j]).set j (some x)) [j] = wipe σ [j] := fun x => by
    show ((σ.set j none).set j (some x)).set j none = σ.set j none
    simp
  have q := el_lcQ (K := K) (tl := te) (σ := σ) (H := H) (j := j) (vs := [j]) (xs := ls.map latV) (te := tVar j) (t := tTest (tOp (fun x y H Q => y = .non ∧ Q (.bl (!decide (x = .non))) H) (tVar j) (tC .non)))
    (fun i => (fun t : Option Int => t.isSome) (ls.getD i none)) (fun i => (fun t : Option Int => latV t) (ls.getD i none)) (es_of h (.inr hs)) (by rw [List.length_map]; omega) hw (fun i x H1 e1 hx => by
      rw [List.getElem?_map] at hx
      obtain ⟨y, hy, rfl⟩ := Option.map_eq_some_iff.mp hx
      rw [getD_of hy]
      refine et_test (ev_op (ev_var (hset _)) ev_c fun H2 e2 Q q => ⟨rfl, ?_⟩)
      cases y with
      | none => simpa [latV] using q H2 (Ex.refl _)
      | some i => simpa [latV] using q H2 (Ex.refl _)) (fun i x H1 e1 hx _ => by
      rw [List.getElem?_map] at hx
      obtain ⟨y, hy, rfl⟩ := Option.map_eq_some_iff.mp hx
      rw [getD_of hy]
      exact ev_var (hset _))
  rw [List.length_map, given_list] at q
  have e : (ls.filter fun t : Option Int => t.isSome).map latV = (ls.filterMap id).map V.int := by
    clear q h hs hl hw hset
    induction ls with
    | nil => rfl
    | cons t ls ih =>
      cases t with
      | none => simpa using ih
      | some i => simp [latV, ih]
  rw [e] at q
  have hlen : (ls.filterMap id).length ≤ 100 := Nat.le_trans (List.length_filterMap_le _ _) hl
  have c := el_cat (ta := tLst (tCons (tC (.int 0)) tNil)) (el_lst (ea_cons (ev_c (v := .int 0)) ea_nil) (by show 1 ≤ 100000; decide)) q (by rw [List.length_map]; show 1 + _ ≤ _; omega)
  intro H1 e1 Q k
  exact c H1 e1 _ fun p H2 hp e2 h2 => ⟨p, 0 :: ls.filterMap id, rfl, sq_of h2, by simp, fun m hm hmax => by rw [win_only hm hmax]; exact k H2 e2⟩
/-- its rule -/
theorem pe_win {X : Cx} (K : Kf) {e : Expr} {te : TE} {y : Str} {j : Nat} {p p2 p3 p4 p5 p6 p7 p8 p9 : Pos} {k1 : Nat} {k2 : Nat} {scope : Scope} (hc : X.calm = true) (hK : X.K = K) (hN : X.N.Nodup) (B : Blt X.mg) (hg : Gl X "max") (he : PE X e te) (ok : BlkOk X.N X.env.scope scope [(y, j)])
    (hy : X.N[j]? = some y) (hsc : scope.names.lookup y = some .local) (hd : (y == ("__debug__" : Str)) = false) (hcd : (y == ("__classdict__" : Str)) = false) (hs : ∀ x, foldedSetIterable e X.env x = pure x := by intro _; rfl)
    (hbs : starEach [.BinOp (.List [.Constant (.int 0) k1 p2] p3) .Add (.ListComp (.Name y p4) [⟨.Name y p5, e, [.Compare (.Name y p6) [.IsNot] [.Constant .none k2 p7] p8], 0⟩] scope p9) p] X.env = (false, eval (.BinOp (.List [.Constant (.int 0) k1 p2] p3) .Add (.ListComp (.Name y p4) [⟨.Name y p5, e, [.Compare (.Name y p6) [.IsNot] [.Constant .none k2 p7] p8], 0⟩] scope p9) p) X.env) :: starEach [] X.env := by rfl)
    {q q2 : Pos} :
    PE X (.Call (.Name "max" q) [.BinOp (.List [.Constant (.int 0) k1 p2] p3) .Add (.ListComp (.Name y p4) [⟨.Name y p5, e, [.Compare (.Name y p6) [.IsNot] [.Constant .none k2 p7] p8], 0⟩] scope p9) p] [] q2) (tWin K te j) := by
  subst hK
  have hsc2 : ∀ {s : Shared} {H : Hp} {C : Addr} {cl : List (Str × Addr)} {fp : List Addr}, (X.blk s H scope (compEnvC scope cl C X.env) fp).env.scope.names.lookup y = some .local := fun {s H C cl fp} => lookup_relS_keep (sc := X.env.scope) (by decide) hsc
  have vis : ∀ {s : Shared} {H : Hp} {C : Addr} {cl : List (Str × Addr)} {fp : List Addr} {pz : Pos}, PE (X.blk s H scope (compEnvC scope cl C X.env) fp) (.Name y pz) (tVar j) := fun {s H C cl fp pz} => pe_var (X := X.blk s H scope (compEnvC scope cl C X.env) fp) hy (.inl hsc2) hd hcd
  exact pe_callB (cr_max hc) hg B.max bt_max (pa_cons (pe_op op_cat (pe_lst (pa_cons pe_int pa_nil)) (pe_lc (own := [(y, j)]) hc hN (pi_seq he) ok (fun s H C cl fp => pg_name (X := X.blk s H scope (compEnvC scope cl C X.env) fp) (i := j) hN hy (.inl hsc2) (.inr hsc2))
    (fun s H C cl fp => pts_one (pt_cmpR (X := X.blk s H scope (compEnvC scope cl C X.env) fp) op_notN vis pe_non (nomark _))) (fun s H C cl fp => vis) hs)) pa_nil hbs) (by decide) (by decide) hbs rfl
theorem ok_wof {f : Addr} {fd : FuncData} (D : Dfn K mg "window_of" sWof ["lateness"] f fd) (B : Blt mg) : FnOk P w K mg base CX0 1 f fd ["lateness"] (SpVal (RWof K) 1) := by
  refine D.F.ok scWof SpVal.len (fun cdv A outer s H vs Q E hr h => ?_)
  obtain ⟨_, z, ⟨a, ls, rfl, hs, hl, rfl⟩, k⟩ := h
  refine ⟨_, pss_one (ps_ret (pe_win K (y := "told") (j := 1) rfl rfl scWof.nd B (by rfl) (pv 0) (blkOk_by (by rfl)) rfl rfl (by decide) (by decide))), ?_⟩
  exact s_ret (ev_win (ev_var rfl) hs hl (by show 1 < 2; decide)) k
end
end Fw
/-! need_lateness, window, gap_kinds -/
namespace Fw
open PySem PySem.Spec PyProof.Rows L2 Evl
theorem lat_of : ∀ {ds : List PyData}, (∀ d ∈ ds, latBad d = false) → ∃ ls : Lat, ds = ls.map latP ∧ ∀ t, some t ∈ ls → 0 ≤ t ∧ t < 13
  | [], _ => ⟨[], rfl, fun t h => by simp at h⟩
  | d :: ds, h => by
    obtain ⟨ls, rfl, hr⟩ := lat_of fun x hx => h x (List.mem_cons_of_mem _ hx)
    have hd := h d List.mem_cons_self
    cases d with
    | none => exact ⟨none :: ls, rfl, fun t ht => by simp at ht; exact hr t ht⟩
    | int i =>
      have hb : (0 : Int) ≤ i ∧ i < 13 := by
        have : (!(decide ((0 : Int) ≤ i) && decide (i < 13))) = false := hd
        simpa using this
      refine ⟨some i :: ls, rfl, fun t ht => ?_⟩
      rcases List.mem_cons.mp ht with z | z
      · cases z; exact hb
      · exact hr t z
    | bool b => cases hd
    | str x => cases hd
    | list x => cases hd
    | tuple x => cases hd
    | dict x => cases hd
theorem da_latInv {K : Kf} {H : Hp} : ∀ {ls : Lat} {vs : List V}, DpAll K H vs (ls.map latP) → vs = ls.map latV
  | [], _, h => by cases h; rfl
  | none :: ls, _, h => by
    cases h with
    | cons h1 h2 =>
      have e : Dp K H _ .none := h1
      cases e
      rw [da_latInv h2]
      rfl
  | some t :: ls, _, h => by
    cases h with
    | cons h1 h2 =>
      have e : Dp K H _ (.int t) := h1
      cases e
      rw [da_latInv h2]
      rfl
structure LatOk (ls : Lat) (k : Nat) : Prop where
  len : ls.length = k
  rng : ∀ t, some t ∈ ls → 0 ≤ t ∧ t < 13
/-- what need_lateness promises: the machine, the value; where all is well a tuple of the same -/
def spLate (K : Kf) (CM CL : Addr) : Sp := fun vs H Q E => ∃ m v, vs = [m, v] ∧ ((∃ k d, MacV K H m k ∧ Dp K H v d ∧
    (∀ i, latFault k d = some i → ErrAt CL i H E) ∧ (latFault k d = none → ∀ p H' ls, Ex H H' → SqT K H' p (ls.map latV) → LatOk ls k → seqD d = some (ls.map latP) → Q (.ref p) H')) ∨
  (m = .non ∧ ErrAt CM (-1) H E))
theorem MacV.k4 {K : Kf} {H : Hp} {v : V} {k : Nat} (h : MacV K H v k) : 1 ≤ k ∧ k ≤ 4 := by
  obtain ⟨nss, rs, _, ok, rfl⟩ := h
  exact ⟨ok.k1, ok.k4⟩
/-- the program's own words for machines and lateness -/
structure DMl (K : Kf) (mg : Str → Option Value) (f6 f7 f8 f9 fk fw fW fg : Addr) (d6 d7 d8 d9 dk dw dW dg : FuncData) : Prop where
  row : Dfn K mg "is_row_below" sRow ["value", "length", "bound"] f6 d6
  mach : Dfn K mg "need_machine" sMach ["value"] f7 d7
  news : Dfn K mg "is_news" sNews ["maps", "value"] f8 d8
  late : Dfn K mg "need_lateness" (topS 23) ["machine", "value"] f9 d9
  kin : Dfn K mg "kinds_at" sKin ["lateness", "behind"] fk dk
  wof : Dfn K mg "window_of" sWof ["lateness"] fw dw
  win : Dfn K mg "window" (topS 25) ["machine", "lateness"] fW dW
  gap : Dfn K mg "gap_kinds" (topS 27) ["machine", "lateness", "behind"] fg dg
/-- the errors' classes -/
structure Ers (P : Program) (K : Kf) (mg : Str → Option Value) (CM CL CS iM iL iS : Addr) : Prop where
  tM : AtTxt P K mg CM iM
  gM : mg "InvalidMachine" = some (.ref CM)
  tL : AtTxt P K mg CL iL
  gL : mg "InvalidLateness" = some (.ref CL)
  tS : AtTxt P K mg CS iS
  gS : mg "InvalidStory" = some (.ref CS)
section
variable {P : Program} {w : World} {K : Kf} {mg : Str → Option Value} {base : Heap} {g1 g2 g3 g4 g5 f6 f7 f8 f9 fk fw fW fg CM CL CS iM iL iS : Addr} {e1 e2 e3 e4 e5 d6 d7 d8 d9 dk dw dW dg : FuncData}
abbrev sLate : Stmt := topS 23
theorem scLate : FnScope ["machine", "value", "kinds", "kind", "told"] ["machine", "value"] (defScope sLate) := ⟨rfl, rfl, rfl, by decide +kernel, rfl, by decide +kernel, by decide +kernel⟩
theorem bad_first {ds : List PyData} {i : Nat} {d : PyData} (h : ∀ (j : Nat) x, j < i → ds[j]? = some x → latBad x = false) (hi : ds[i]? = some d) (hb : latBad d = true) : ds.findIdx? latBad = some i := by
  rw [List.findIdx?_eq_some_iff_getElem]
  obtain ⟨hl, e⟩ := List.getElem?_eq_some_iff.mp hi
  refine ⟨hl, by rw [e]; exact hb, fun j hj => ?_⟩
  have := h j _ hj (List.getElem?_eq_getElem (Nat.lt_trans hj hl))
  rw [this]; exact Bool.false_ne_true
theorem bad_none {ds : List PyData} (h : ∀ (j : Nat) x, j < ds.length → ds[j]? = some x → latBad x = false) : ds.findIdx? latBad = none := by
  rw [List.findIdx?_eq_none_iff]
  intro x hx
  obtain ⟨j, hj, e⟩ := List.mem_iff_getElem.mp hx
  exact h j x hj (by rw [List.getElem?_eq_getElem hj, e])
theorem ok_late (D : DMl K mg f6 f7 f8 f9 fk fw fW fg d6 d7 d8 d9 dk dw dW dg) (W : Wd K mg g1 g2 g3 g4 g5 e1 e2 e3 e4 e5) (T : Ers P K mg CM CL CS iM iL iS) : FnOk P w K mg base (L2.CX P w) 6 f9 d9 ["machine", "value"] (spLate K CM CL) := by
  refine D.late.F.okX scLate (fun vs H Q E h => ?_) (fun cdv A outer s H vs Q E hr h => ?_)
  · obtain ⟨m, v, rfl, _⟩ := h
    rfl
  obtain ⟨m, v, rfl, h⟩ := h
  have B := W.B
  have hr1 : Room 1 _ := hr.mono (by decide)
  have hr3 : Room 3 _ := hr.mono (by decide)
  refine ⟨_, pss_cons (ps_set (i := 2) scLate.nd rfl (.inl rfl) (pe_len B (by rfl) (pe_ix ix_seq (pe_dfx (ok_mach D.mach D.row W T.tM T.gM) D.mach hr (by rfl) (takes_of rfl rfl rfl rfl) (pa_cons (pv 0) pa_nil)) pe_int (fun _ _ => rfl))))
    (pss_cons (ps_if (pw_or (pt_not (pt_val (pe_dfn (ok_seq W.S.d1 B) W.S.d1 hr1 (by rfl) (pa_cons (pv 1) pa_nil))))
      (pw_or1 (pt_cmpR op_ne (pe_len B (by rfl) (pv 1)) (pv 2) (nomark _)))).pt
      (pss_one (ps_raiseAt rfl T.tL T.gL hr (takes_of rfl rfl rfl rfl) (pa_cons (pe_un un_neg pe_int) pa_nil) (by rfl))) pss_nil)
    (pss_cons (ps_for (passes_of rfl) rfl (pi_enumS (by rfl) B.enum (pa_cons (pv 1) pa_nil)) (pg_tup rfl (pgs_cons (pg_name (i := 3) scLate.nd rfl (.inl rfl)) (pgs_cons (pg_name (i := 4) scLate.nd rfl (.inl rfl)) pgs_nil)))
      (pss_one (ps_if (pw_and (pt_cmpR op_notN (pv 4) pe_non (nomark _)) (pw_and1 (pt_not (pt_val (pe_dfn (ok_below W.N B) W.N.d3 hr3 (by rfl) (pa_cons (pv 4) (pa_cons (pe_cst (by rfl) W.C.late) pa_nil))))))).pt
        (pss_one (ps_raiseAt rfl T.tL T.gL hr (takes_of rfl rfl rfl rfl) (pa_cons (pv 3) pa_nil) (by rfl))) pss_nil)))
    (pss_one (ps_ret (pe_tuple B (by rfl) (pv 1)))))), ?_⟩
  rcases h with ⟨k, d, hm, hd, kE, kQ⟩ | ⟨rfl, kE⟩
  · -- kinds = len(need_machine(machine)[0])
    refine ⟨_, rfl, m, rfl, .inl ⟨k, hm, fun p q x rs H1 e1 hp hq hrs => .inr (.inl ⟨p, _, 0, _, rfl, rfl, st_of hp, rfl, q, rs, rfl, .inr (st_of hq), ?_⟩)⟩⟩
    subst hrs
    have v1 : ∀ {H2 : Hp}, Ev (tVar 1) [some m, some v, some (.int (rs.length : Int)), none, none] H2 v := ev_var rfl
    show tSeq _ _ _ [some m, some v, some (.int (rs.length : Int)), none, none] H1
    cases hs : seqD d with
    | none =>
      have hf : latFault rs.length d = some (-1) := by unfold latFault; rw [hs]
      exact q_when (b := true) (et_or (a := true) (b := false) (et_not (a := false) (et_B (ev_val (R := RSeq K) (ea_cons v1 ea_nil) rfl fun H2 e2 => ⟨v, d, rfl, hd.ex (e1.trans e2), by rw [hs]; rfl⟩))) (fun z => nomatch z)) (fun _ H2 e2 => s_raise ev_neg ((kE _ hf).ex (e1.trans e2))) (fun z => nomatch z)
    | some ds =>
      obtain ⟨a, xs, rfl, hq1, ha⟩ := dp_seq hd hs
      have hxl := da_len ha
      have test : EvT _ [some m, some (.ref a), some (.int (rs.length : Int)), none, none] H1 _ := et_or (a := false) (et_not (a := true) (et_B (ev_val (R := RSeq K) (ea_cons v1 ea_nil) rfl fun H2 e2 => ⟨_, d, rfl, hd.ex (e1.trans e2), by rw [hs]; rfl⟩)))
        (fun _ => et_test (ev_neI (ev_lenS v1 (hq1.ex e1)) (ev_var (i := 2) (v := .int (rs.length : Int)) rfl)))
      by_cases hl : ds.length = rs.length
      · refine q_when (b := false) (et_is test (by simp [hxl, hl])) (fun z => nomatch z) fun _ H2 e2 => ?_
        have e12 := e1.trans e2
        have hf : latFault rs.length d = (ds.findIdx? latBad).map fun i => (i : Int) := by unfold latFault; rw [hs]; simp [hl]
        -- the places
        refine s_forE (D := { nx := _, rt := Q }) (a := a) (xs := xs) (ea_cons (ev_var rfl) ea_nil) (hq1.ex e12) (fun i σ H' => (∃ y z, σ = [some m, some (.ref a), some (.int (rs.length : Int)), y, z]) ∧ Ex H2 H' ∧ ∀ (j : Nat) x, j < i → ds[j]? = some x → latBad x = false)
          (fun H3 e3 => ⟨⟨_, _, rfl⟩, e3, fun j x hj => absurd hj (Nat.not_lt_zero _)⟩) (fun i σ H' _ p => p.2.1) (fun i x σ H3 T0 hx p hT => ?_) (fun σ H3 p => ?_)
        · obtain ⟨⟨y0, z0, rfl⟩, e3, hp⟩ := p
          obtain ⟨dx, hdx, hvx⟩ := da_get ha hx
          have e4 : Ex H2 (upd H3 T0 (.tup [.int (i : Nat), x])) := e3.trans (Ex.new hT)
          refine ⟨T0, _, rfl, st_of upd_same, rfl, _, _, rfl, _, _, rfl, rfl, ?_⟩
          show tIfS _ _ _ _ [some m, some (.ref a), some (.int (rs.length : Int)), some (.int (i : Nat)), some x] _
          have hvx4 := hvx.ex (e12.trans e4)
          have nn : EvT (tTest (tOp (fun x y H Q => y = .non ∧ Q (.bl (!decide (x = .non))) H) (tVar 4) (tC .non))) [some m, some (.ref a), some (.int (rs.length : Int)), some (.int (i : Nat)), some x] (upd H3 T0 (.tup [.int (i : Nat), x])) (!decide (x = .non)) :=
            et_test (ev_op (ev_var rfl) ev_c fun H5 e5 Q5 q5 => ⟨rfl, q5 H5 (Ex.refl _)⟩)
          have tst := et_and (b := !(belowD 13 dx)) nn fun hnn => et_not (et_B (ev_val (R := RBelow K) (vs := [x, .int 13]) (ea_cons (ev_var (i := 4) rfl) (ea_cons ev_c ea_nil)) rfl fun H5 e5 => ⟨x, dx, 13, rfl, hvx4.ex e5, rfl⟩))
          have hbad : ((!decide (x = V.non)) && !(belowD 13 dx)) = latBad dx := by
            cases hvx with
            | non => rfl
            | bl b => rfl
            | int i => simp [latBad]
            | str x => rfl
            | lst hs ha => rfl
            | tup hs ha => rfl
          rw [hbad] at tst
          cases hb : latBad dx with
          | true =>
            rw [hb] at tst
            refine s_when (b := true) tst (fun _ H5 e5 => s_raise (ev_var rfl) ((kE _ ?_).ex ((e12.trans e4).trans e5))) (fun z => nomatch z)
            rw [hf, bad_first hp hdx hb]; rfl
          | false =>
            rw [hb] at tst
            refine s_when (b := false) tst (fun z => nomatch z) fun _ H5 e5 => ⟨⟨_, _, rfl⟩, e4.trans e5, fun j y hj hy => ?_⟩
            rcases Nat.lt_succ_iff_lt_or_eq.mp hj with z | z
            · exact hp j y z hy
            · subst z; rw [hdx] at hy; cases hy; exact hb
        · obtain ⟨⟨y0, z0, rfl⟩, e3, hp⟩ := p
          have hall : ∀ x ∈ ds, latBad x = false := fun x hx => by
            obtain ⟨j, hj, e⟩ := List.mem_iff_getElem.mp hx
            exact hp j x (by omega) (by rw [List.getElem?_eq_getElem hj, e])
          obtain ⟨ls, rfl, hrng⟩ := lat_of hall
          have hn : latFault rs.length d = none := by rw [hf, bad_none fun j x hj e => hp j x (by omega) e]; rfl
          have exs := da_latInv ha
          subst exs
          have okl : LatOk ls rs.length := ⟨by rw [← hl, List.length_map], hrng⟩
          rcases (hq1.ex e12).ex e3 with hL | hT
          · exact ⟨_, rfl, a, _, rfl, .inl ⟨hL, fun p hp' => kQ hn p _ ls ((e12.trans e3).trans (Ex.new hp')) (st_of upd_same) okl hs⟩⟩
          · exact ⟨_, rfl, a, _, rfl, .inr ⟨hT, kQ hn a _ ls (e12.trans e3) hT okl hs⟩⟩
      · have hf : latFault rs.length d = some (-1) := by unfold latFault; rw [hs]; simp [hl]
        refine q_when (b := true) (et_is test (by simp [hxl, hl]; omega)) (fun _ H2 e2 => s_raise ev_neg ((kE _ hf).ex (e1.trans e2))) (fun z => nomatch z)
  · exact ⟨_, rfl, .non, rfl, .inr ⟨rfl, kE⟩⟩
/-! ### window, gap_kinds -/
abbrev sWin : Stmt := topS 25
def spWin (K : Kf) (CL : Addr) : Sp := fun vs H Q E => ∃ m v k d, vs = [m, v] ∧ MacV K H m k ∧ Dp K H v d ∧ (∀ i, latFault k d = some i → ErrAt CL i H E) ∧
  (latFault k d = none → ∀ ls H', LatOk ls k → seqD d = some (ls.map latP) → Ex H H' → Q (.int (winOf ls)) H')
theorem scWin : FnScope ["machine", "lateness"] ["machine", "lateness"] (defScope sWin) := ⟨rfl, rfl, rfl, by decide +kernel, rfl, by decide +kernel, by decide +kernel⟩
theorem ok_win (D : DMl K mg f6 f7 f8 f9 fk fw fW fg d6 d7 d8 d9 dk dw dW dg) (W : Wd K mg g1 g2 g3 g4 g5 e1 e2 e3 e4 e5) (T : Ers P K mg CM CL CS iM iL iS) : FnOk P w K mg base (L2.CX P w) 7 fW dW ["machine", "lateness"] (spWin K CL) := by
  refine D.win.F.okX scWin (fun vs H Q E h => ?_) (fun cdv A outer s H vs Q E hr h => ?_)
  · obtain ⟨m, v, k, d, rfl, _⟩ := h
    rfl
  obtain ⟨m, v, k, d, rfl, hm, hd, kE, kQ⟩ := h
  refine ⟨_, pss_one (ps_ret (pe_dfn (ok_wof D.wof W.B) D.wof (hr.mono (by decide)) (by rfl) (pa_cons (pe_dfx (ok_late D W T) D.late hr (by rfl) (takes_of rfl rfl rfl rfl) (pa_cons (pv 0) (pa_cons (pv 1) pa_nil))) pa_nil))), ?_⟩
  refine ⟨_, rfl, _, rfl, m, v, rfl, .inl ⟨k, d, hm, hd, kE, fun hf p H' ls e hp ok hs => ⟨rfl, _, ⟨p, ls, rfl, hp, ?_, rfl⟩, fun H2 e2 => kQ hf ls H2 ok hs (e.trans e2)⟩⟩⟩
  rw [ok.len]
  have := hm.k4
  omega
abbrev sGap : Stmt := topS 27
def spGap (K : Kf) (CM CL : Addr) : Sp := fun vs H Q E => ∃ m v n, vs = [m, v, .int n] ∧ ((∃ k d, MacV K H m k ∧ Dp K H v d ∧ (∀ i, latFault k d = some i → ErrAt CL i H E) ∧
  (latFault k d = none → ∀ ls p H', LatOk ls k → seqD d = some (ls.map latP) → Ex H H' → H' p = some (.tup ((kindsAt ls n).map V.int)) → Q (.ref p) H')) ∨ (m = .non ∧ ErrAt CM (-1) H E))
theorem scGap : FnScope ["machine", "lateness", "behind"] ["machine", "lateness", "behind"] (defScope sGap) := ⟨rfl, rfl, rfl, by decide +kernel, rfl, by decide +kernel, by decide +kernel⟩
theorem ok_gap (D : DMl K mg f6 f7 f8 f9 fk fw fW fg d6 d7 d8 d9 dk dw dW dg) (W : Wd K mg g1 g2 g3 g4 g5 e1 e2 e3 e4 e5) (T : Ers P K mg CM CL CS iM iL iS) : FnOk P w K mg base (L2.CX P w) 7 fg dg ["machine", "lateness", "behind"] (spGap K CM CL) := by
  refine D.gap.F.okX scGap (fun vs H Q E h => ?_) (fun cdv A outer s H vs Q E hr h => ?_)
  · obtain ⟨m, v, n, rfl, _⟩ := h
    rfl
  obtain ⟨m, v, n, rfl, h⟩ := h
  refine ⟨_, pss_one (ps_ret (pe_dfn (ok_kin D.kin W.B) D.kin (hr.mono (by decide)) (by rfl) (pa_cons (pe_dfx (ok_late D W T) D.late hr (by rfl) (takes_of rfl rfl rfl rfl) (pa_cons (pv 0) (pa_cons (pv 1) pa_nil))) (pa_cons (pv 2) pa_nil)))), ?_⟩
  rcases h with ⟨k, d, hm, hd, kE, kQ⟩ | ⟨rfl, kE⟩
  · refine ⟨_, rfl, _, rfl, m, v, rfl, .inl ⟨k, d, hm, hd, kE, fun hf p H' ls e hp ok hs => ⟨_, rfl, rfl, _, ⟨p, ls, n, rfl, hp, ?_, rfl⟩, fun r H2 e2 h2 => kQ hf ls r H2 ok hs (e.trans e2) h2⟩⟩⟩
    rw [ok.len]
    have := hm.k4
    omega
  · exact ⟨_, rfl, _, rfl, .non, v, rfl, .inr ⟨rfl, kE⟩⟩
end
end Fw
/-! need_told -/
namespace Fw
open PySem PySem.Spec PyProof.Rows L2 Evl
section
variable {K : Kf} {σ : L2.St} {H : Hp} {te tl ta tb : TE} {r : R2} {x z : V}
/-- a comprehension without tests over a sequence, its element perhaps new -/
theorem lc_new {xs : List V} {j : Nat} {vs : List Nat} (h : EvS K tl σ H xs) (hz : xs.length ≤ 50000) (hw : ∀ x, wipe ((wipe σ vs).set j (some x)) vs = wipe σ vs) (P : Nat → Hp → V → Prop) (mono : ∀ i y G G', Ex G G' → P i G y → P i G' y)
    (hs : ∀ i x D H', xs[i]? = some x → Ex H H' → H' D ≠ none → H D = none → ∀ Qn : VK, (∀ y H4, Ex H' H4 → P i (hide D H4) y → Qn y H4) → te ((wipe σ vs).set j (some x)) H' Qn) :
    ∀ H0, Ex H H0 → ∀ Q : VK, (∀ p H2 acc, Ex H0 H2 → H0 p = none → H2 p = some (.lst acc) → acc.length = xs.length → (∀ (i : Nat) (y : V), acc[i]? = some y → P i (hide p H2) y) → Q (.ref p) H2) → tLc (iSeq K tl) (gName j) tYes te vs σ H0 Q := fun H0 e Q q => h H0 e _ fun a H1 e1 hx => by
  have w0 : ∀ {J : It} {G : Hp → Prop}, Walk J xs.length G (YAt xs) → (∀ H', Ex H1 H' → G H') → ∀ Dl, H1 Dl = none → _ := fun {J G} wk hG Dl hD =>
    lc_gen (g := gName j) (te := te) (vs := vs) (σ := σ) (H1 := H1) (D := Dl) (Qd := fun H => Q (.ref Dl) H) wk noB (fun b hb => hb.elim) P (fun i y A B hk => mono i y A B fun a o e => hk a o (fun z => z) e) hz hD (fun H' b => hG H' b.ex)
      (fun i x H' H'' hi b hn y Qn k => by
        obtain ⟨rfl, hx⟩ := y
        exact ⟨hw x, hs i x Dl _ hx ((e.trans e1).trans b.ex) hn (fresh_back (e.trans e1) hD) Qn fun y H4 e4 p4 => k y H4 (.of e4) p4⟩)
      (fun H' acc b h1 h2 h3 => q Dl H' acc (e1.trans b.ex) (fresh_back e1 hD) h1 h2 h3)
  refine ⟨a, xs, rfl, hx.imp (fun hl => ⟨hl, ?_⟩) fun hl => ⟨hl, ?_⟩⟩
  · exact w0 walk_list fun H' e' => ex_l e' hl
  · exact w0 walk_tup fun H' e' => ex_t e' hl
theorem ev_opS {xs : List V} (ha : Ev ta σ H x) (hb : EvS K tb σ H xs) (hr : ∀ p H1, SqS K H1 p xs → Ex H H1 → RV r x (.ref p) H1 z) : Ev (tOp r ta tb) σ H z := fun H1 e Q q =>
  ha H1 e _ fun H2 e2 => hb H2 (e.trans e2) _ fun p H3 e3 hp => hr p H3 hp ((e.trans e2).trans e3) H3 (Ex.refl H3) Q fun H4 e4 => q H4 ((e2.trans e3).trans e4)
/-- the new tuple of a call -/
theorem es_tup {R : List V → Hp → List V → Prop} {n : Nat} {ta : TA} {vs xs : List V} (h : EvA ta σ H vs) (hn : vs.length = n) (hR : ∀ H1, Ex H H1 → R vs H1 xs) : EvS K (tCall (SpTup R n) [] E0 ta) σ H xs := fun H1 e Q q =>
  h H1 e _ fun H2 e2 => by
    show SpTup R n (vs ++ []) H2 Q E0
    rw [List.append_nil]
    exact ⟨hn, xs, hR H2 (e.trans e2), fun p H3 e3 h3 => q p H3 (e2.trans e3) (.inr (st_of h3))⟩
theorem _root_.Evl.EvL.to {xs ys : List V} (h : EvL te σ H xs) (e : xs = ys) : EvL te σ H ys := e ▸ h
/-- v[:i], not the whole -/
def rSlS (K : Kf) : V → Option Int → Option Int → Hp → VK → Prop := fun x lo hi H Q => rSlL K x lo hi H Q ∨ rSlT K x lo hi H Q
theorem es_take {th : TO} {a : Addr} {xs : List V} {i : Nat} (h : Ev te σ H (.ref a)) (hs : SqS K H a xs) (hi : EvO th σ H (some (i : Int))) (hl : i < xs.length) : EvS K (tSl (rSlS K) te tNoPart th) σ H (xs.take i) := fun H1 e Q q =>
  h H1 e _ fun H2 e2 => hi H2 (e.trans e2) _ fun H3 e3 => by
    have cut : cutV xs none (some (i : Int)) = xs.take i := by
      unfold cutV
      rw [HT.sIx_none, HT.sIx_nat, Nat.min_eq_left (Nat.le_of_lt hl)]
      simp
    rcases hs with hs | hs
    · exact .inl ⟨a, xs, rfl, ex_l ((e.trans e2).trans e3) hs, fun p hp => q p _ ((e2.trans e3).trans (Ex.new hp)) (.inl (sq_of (by rw [upd_same, cut])))⟩
    · refine .inr ⟨a, xs, rfl, ex_t ((e.trans e2).trans e3) hs, ?_, fun p hp => q p _ ((e2.trans e3).trans (Ex.new hp)) (.inr (st_of (by rw [upd_same, cut])))⟩
      rw [HT.sIx_nat]
      omega
theorem inV_ints {m : Int} : ∀ {hs : List Int}, inV (.int m) (hs.map V.int) = hs.contains m
  | [] => rfl
  | h :: hs => by
    have ih := @inV_ints m hs
    unfold inV at ih ⊢
    rw [List.map_cons, List.any_cons, ih, List.contains_cons]
    congr 1
    show (h == m) = (m == h)
    exact BEq.comm
theorem flat_ints : ∀ hs : List Int, (hs.map V.int).all flatV = true
  | [] => rfl
  | _ :: hs => by rw [List.map_cons, List.all_cons, flat_ints hs]; rfl
end
/-- the items of a story, each in a tuple -/
def toTupP (d : PyData) : PyData := match seqD d with
  | some ds => .tuple ds
  | none => d
def itemsD (d : PyData) : List PyData := (seqD d).getD []
theorem news_at {k : Int} {d : PyData} {m j : Int} (h : newsD k d = some (m, j)) : seqD d = some [.int m, .int j] ∧ (0 ≤ m ∧ m < 1000000) ∧ 0 ≤ j ∧ j < k := by
  unfold newsD at h
  split at h
  · rename_i a b e
    split at h
    · rename_i m' j'
      split at h
      · rename_i hc
        cases h
        simp at hc
        exact ⟨e, hc.1, hc.2⟩
      · cases h
    · cases h
  · cases h
theorem news_moment {k : Int} {d : PyData} {m j : Int} (h : newsD k d = some (m, j)) : momentOf d = m := by
  unfold momentOf
  rw [(news_at h).1]
/-- what need_told promises -/
def spTold (K : Kf) (CL CS : Addr) : Sp := fun vs H Q E => ∃ m lv v k dl d, vs = [m, lv, v] ∧ MacV K H m k ∧ Dp K H lv dl ∧ Dp K H v d ∧ (∀ i, latFault k dl = some i → ErrAt CL i H E) ∧
  (latFault k dl = none → ∀ ls, LatOk ls k → seqD dl = some (ls.map latP) → (∀ i, toldFault ls d = some i → ErrAt CS i H E) ∧
    (toldFault ls d = none → ∀ r H', Ex H H' → Dp K H' r (.tuple ((itemsD d).map toTupP)) → Q r H'))
section
variable {P : Program} {w : World} {K : Kf} {mg : Str → Option Value} {base : Heap} {g1 g2 g3 g4 g5 f6 f7 f8 f9 fk fw fW fg CM CL CS iM iL iS : Addr} {e1 e2 e3 e4 e5 d6 d7 d8 d9 dk dw dW dg : FuncData}
abbrev sTold : Stmt := topS 28
abbrev nTold : List Str := ["machine", "lateness", "value", "maps", "at", "news", "heard", "late", "other", "moment"]
theorem scTold : FnScope nTold ["machine", "lateness", "value"] (defScope sTold) := ⟨rfl, rfl, rfl, by decide +kernel, rfl, by decide +kernel, by decide +kernel⟩
theorem pe_ixB (K : Kf) {X : Cx} {a b : Expr} {ta tb : TE} {pos : Pos} (hK : X.K = K) (ha : PE X a ta) (hb : PE X b tb) (hs : PlainIx b) : PE X (.Subscript a b pos) (tOp (rIx K) ta tb) := by
  rw [← hK]
  exact pe_ix ix_seq ha hb hs
theorem ok_told {f : Addr} {fd : FuncData} (Dt : Dfn K mg "need_told" sTold ["machine", "lateness", "value"] f fd) (D : DMl K mg f6 f7 f8 f9 fk fw fW fg d6 d7 d8 d9 dk dw dW dg) (W : Wd K mg g1 g2 g3 g4 g5 e1 e2 e3 e4 e5) (T : Ers P K mg CM CL CS iM iL iS) : FnOk P w K mg base (L2.CX P w) 7 f fd ["machine", "lateness", "value"] (spTold K CL CS) := by
  refine Dt.F.okX scTold (fun vs H Q E h => ?_) (fun cdv A outer s H vs Q E hr h => ?_)
  · obtain ⟨m, lv, v, k, dl, d, rfl, _⟩ := h
    rfl
  obtain ⟨m, lv, v, k, dl, d, rfl, hm, hdl, hd, kE, kQ⟩ := h
  have B := W.B
  have hr1 : Room 1 _ := hr.mono (by decide)
  have hr4 : Room 4 _ := hr.mono (by decide)
  have hr5 : Room 5 _ := hr.mono (by decide)
  refine ⟨_, pss_cons (ps_par (i := 3) (j := 1) rfl scTold.nd rfl rfl (by decide) rfl rfl
      (pa_cons (pe_ix ix_seq (pe_dfx (ok_mach D.mach D.row W T.tM T.gM) D.mach hr5 (by rfl) (takes_of rfl rfl rfl rfl) (pa_cons (pv 0) pa_nil)) pe_int (fun _ _ => rfl))
        (pa_cons (pe_dfx (ok_late D W T) D.late hr (by rfl) (takes_of rfl rfl rfl rfl) (pa_cons (pv 0) (pa_cons (pv 1) pa_nil))) pa_nil)) (by rfl))
    (pss_cons (ps_if (pw_or (pt_not (pt_val (pe_dfn (ok_seq W.S.d1 B) W.S.d1 hr1 (by rfl) (pa_cons (pv 2) pa_nil))))
      (pw_or1 (pt_cmpR op_gt (pe_len B (by rfl) (pv 2)) (pe_cst (by rfl) W.C.news) (nomark _)))).pt
      (pss_one (ps_raiseAt rfl T.tS T.gS hr (takes_of rfl rfl rfl rfl) (pa_cons (pe_un un_neg pe_int) pa_nil) (by rfl))) pss_nil)
    (pss_cons (ps_for (passes_of rfl) rfl (pi_enumS (by rfl) B.enum (pa_cons (pv 2) pa_nil)) (pg_tup rfl (pgs_cons (pg_name (i := 4) scTold.nd rfl (.inl rfl)) (pgs_cons (pg_name (i := 5) scTold.nd rfl (.inr rfl)) pgs_nil)))
      (pss_cons (ps_if (pt_not (pt_val (pe_dfn (ok_news D.news W) D.news hr4 (by rfl) (pa_cons (pv 3) (pa_cons (pv 5) pa_nil)))))
        (pss_one (ps_raiseAt rfl T.tS T.gS hr (takes_of rfl rfl rfl rfl) (pa_cons (pv 4) pa_nil) (by rfl))) pss_nil)
      (pss_cons (ps_setLc (i := 6) (own := [("other", 8)]) rfl scTold.nd rfl rfl (sw_true rfl rfl rfl (by decide +kernel)) (pi_seq (pe_slice (r := rSlS K) (SlR.or sl_list sl_tup) (pv 2) po_none (po_some (pv 4)))) (blkOk_by (by rfl))
        (fun _ _ _ _ _ => pg_name (i := 8) scTold.nd rfl (Or.inl rfl)) (fun _ _ _ _ _ => pts_nil) (fun _ _ _ _ _ => pe_ixB K rfl (pv 8) pe_int (fun _ _ => rfl)))
      (pss_cons (ps_set (i := 7) scTold.nd rfl (.inl rfl) (pe_len B (by rfl) (pe_lc (own := [("moment", 9)]) rfl scTold.nd (pi_seq (pv 6)) (blkOk_by (by rfl)) (fun _ _ _ _ _ => pg_name (i := 9) scTold.nd rfl (Or.inl rfl))
        (fun _ _ _ _ _ => pts_one (pt_cmpR op_gt (pv 9) (pe_ixB K rfl (pv 5) pe_int (fun _ _ => rfl)) (nomark _))) (fun _ _ _ _ _ => pv 9))))
      (pss_one (ps_if (pw_or (pt_cmpR op_in_seq (pe_ix ix_seq (pv 5) pe_int (fun _ _ => rfl)) (pv 6) (by with_unfolding_all rfl))
        (pw_or1 (pt_cmpR op_notIn_seq (pe_ix ix_seq (pv 5) pe_int (fun _ _ => rfl)) (pe_dfn (ok_kin D.kin B) D.kin hr1 (by rfl) (pa_cons (pv 1) (pa_cons (pv 7) pa_nil))) (by with_unfolding_all rfl)))).pt
        (pss_one (ps_raiseAt rfl T.tS T.gS hr (takes_of rfl rfl rfl rfl) (pa_cons (pv 4) pa_nil) (by rfl))) pss_nil))))))
    (pss_one (ps_ret (pe_tuple B (by rfl) (pe_lc (own := [("news", 5)]) rfl scTold.nd (pi_seq (pv 2)) (blkOk_by (by rfl)) (fun _ _ _ _ _ => pg_name (i := 5) scTold.nd rfl (Or.inl rfl)) (fun _ _ _ _ _ => pts_nil)
      (fun _ _ _ _ _ => pe_tupleB K rfl B (by rfl) (pv 5)))))))), ?_⟩
  -- maps, lateness = ..
  refine ⟨_, rfl, m, rfl, .inl ⟨k, hm, fun p q x rs H1 e1 hp hq hrs => .inr (.inl ⟨p, _, 0, _, rfl, rfl, st_of hp, rfl, ?_⟩)⟩⟩
  subst hrs
  refine ⟨_, rfl, _, rfl, m, lv, rfl, .inl ⟨rs.length, dl, hm.ex e1, hdl.ex e1, fun i hi => (kE i hi).ex e1, fun hf p2 H2 ls e2 hp2 ok hs => ⟨_, _, rfl, ?_⟩⟩⟩
  obtain ⟨kF, kR⟩ := kQ hf ls ok hs
  show tSeq _ _ _ [some m, some (.ref p2), some v, some (.ref q), none, none, none, none, none, none] H2
  have e12 := e1.trans e2
  have hq2 : SqT K H2 q rs := st_of (e2 _ _ hq)
  have k4 : rs.length ≤ 4 := hm.k4.2
  cases hsd : seqD d with
  | none =>
    have hfl : toldFault ls d = some (-1) := by unfold toldFault; rw [hsd]
    exact q_when (b := true) (et_or (a := true) (b := false) (et_not (a := false) (et_B (ev_val (R := RSeq K) (vs := [v]) (ea_cons (ev_var rfl) ea_nil) rfl fun H3 e3 => ⟨v, d, rfl, hd.ex (e12.trans e3), by rw [hsd]; rfl⟩))) (fun z => nomatch z)) (fun _ H3 e3 => s_raise ev_neg ((kF _ hfl).ex (e12.trans e3))) (fun z => nomatch z)
  | some ds =>
    obtain ⟨a, xs, rfl, hq1, ha⟩ := dp_seq hd hsd
    have hxl := da_len ha
    have test : EvT _ [some m, some (.ref p2), some (.ref a), some (.ref q), none, none, none, none, none, none] H2 _ := et_or (a := false) (et_not (a := true) (et_B (ev_val (R := RSeq K) (vs := [.ref a]) (ea_cons (ev_var (i := 2) rfl) ea_nil) rfl fun H3 e3 => ⟨_, d, rfl, hd.ex (e12.trans e3), by rw [hsd]; rfl⟩)))
      (fun _ => et_test (ev_gtI (i := (xs.length : Int)) (j := 400) (ev_lenS (ev_var (i := 2) rfl) (hq1.ex e12)) ev_c))
    by_cases hl : 400 < ds.length
    · have hfl : toldFault ls d = some (-1) := by unfold toldFault; rw [hsd]; simp [hl]
      exact q_when (b := true) (et_is test (by simp [hxl]; omega)) (fun _ H3 e3 => s_raise ev_neg ((kF _ hfl).ex (e12.trans e3))) (fun z => nomatch z)
    · refine q_when (b := false) (et_is test (by simp [hxl]; omega)) (fun z => nomatch z) fun _ H3 e3 => ?_
      have e13 := e12.trans e3
      have hfl : toldFault ls d = faultFrom ls [] 0 ds := by unfold toldFault; rw [hsd]; simp [hl]
      refine s_forE (D := { nx := _, rt := Q }) (a := a) (xs := xs) (ea_cons (ev_var rfl) ea_nil) (hq1.ex e13) (fun i σ H' => (∃ y4 y5 y6 y7, σ = [some m, some (.ref p2), some (.ref a), some (.ref q), y4, y5, y6, y7, none, none]) ∧ Ex H3 H' ∧
          (toldFault ls d = faultFrom ls ((ds.take i).map momentOf) i (ds.drop i)) ∧ ∀ (j : Nat) x, j < i → ds[j]? = some x → (newsD ls.length x).isSome)
        (fun H4 e4 => ⟨⟨_, _, _, _, rfl⟩, e4, by rw [hfl]; rfl, fun j x hj => absurd hj (Nat.not_lt_zero _)⟩) (fun i σ H' _ p => p.2.1) (fun i x σ H4 T0 hx p hT => ?_) (fun σ H4 p => ?_)
      · obtain ⟨⟨y4, y5, y6, y7, rfl⟩, e4, hF, hprev⟩ := p
        obtain ⟨dx, hdx, hvx⟩ := da_get ha hx
        have hil : i < xs.length := (List.getElem?_eq_some_iff.mp hx).1
        have e5 : Ex H3 (upd H4 T0 (.tup [.int (i : Nat), x])) := e4.trans (Ex.new hT)
        have hdrop : ds.drop i = dx :: ds.drop (i + 1) := by
          obtain ⟨hi', e'⟩ := List.getElem?_eq_some_iff.mp hdx
          rw [List.drop_eq_getElem_cons hi', e']
        refine ⟨T0, _, rfl, st_of upd_same, rfl, _, _, rfl, _, _, rfl, rfl, ?_⟩
        generalize eH5 : upd H4 T0 (.tup [.int (i : Nat), x]) = H5 at e5 ⊢
        show tSeq _ _ _ [some m, some (.ref p2), some (.ref a), some (.ref q), some (.int (i : Nat)), some x, y6, y7, none, none] H5
        have e15 := e13.trans e5
        have e25 := e3.trans e5
        have fault_at : newsBad ls ((ds.take i).map momentOf) dx = true → toldFault ls d = some (i : Int) := fun hb => by
          rw [hF, hdrop]
          unfold faultFrom
          rw [if_pos hb]
        have tnews := ev_val (R := RNews K) (σ := [some m, some (.ref p2), some (.ref a), some (.ref q), some (.int (i : Nat)), some x, y6, y7, none, none]) (H := H5) (vs := [.ref q, x]) (z := .bl (newsD rs.length dx).isSome) (ea_cons (ev_var (i := 3) rfl) (ea_cons (ev_var (i := 5) rfl) ea_nil)) rfl
          fun H6 e6 => ⟨q, rs, x, dx, rfl, ex_t (e25.trans e6) hq2, hvx.ex (e15.trans e6), rfl⟩
        cases hn : newsD rs.length dx with
        | none =>
          rw [hn] at tnews
          have hb : newsBad ls ((ds.take i).map momentOf) dx = true := by unfold newsBad; rw [ok.len, hn]
          exact q_when (b := true) (et_not (a := false) (et_B tnews)) (fun _ H6 e6 => s_raise (ev_var rfl) ((kF _ (fault_at hb)).ex (e15.trans e6))) (fun z => nomatch z)
        | some mj =>
          obtain ⟨mm, jj⟩ := mj
          rw [hn] at tnews
          refine q_when (b := false) (et_not (a := true) (et_B tnews)) (fun z => nomatch z) fun _ H6 e6 => ?_
          obtain ⟨hsx, hm1, hj1⟩ := news_at hn
          obtain ⟨ax, us, rfl, hqx, hau⟩ := dp_seq hvx hsx
          have eu : us = [.int mm, .int jj] := by
            cases hau with
            | cons h1 h2 =>
              cases h2 with
              | cons h2 h3 => cases h3; cases h1; cases h2; rfl
          subst eu
          have e16 := e15.trans e6
          -- heard = [other[0] for other in value[:at]]
          have heard : EvL (tLc (iSeq K (tSl (rSlS K) (tVar 2) tNoPart (tPart (tVar 4)))) (gName 8) tYes (tOp (rIx K) (tVar 8) (tC (.int 0))) [8]) [some m, some (.ref p2), some (.ref a), some (.ref q), some (.int (i : Nat)), some (.ref ax), y6, y7, none, none] H6 (((ds.take i).map momentOf).map V.int) := by
            have g := el_lcQ (K := K) (tl := tSl (rSlS K) (tVar 2) tNoPart (tPart (tVar 4))) (σ := [some m, some (.ref p2), some (.ref a), some (.ref q), some (.int (i : Nat)), some (.ref ax), y6, y7, none, none]) (H := H6) (j := 8) (vs := [8]) (xs := xs.take i) (t := tYes) (te := tOp (rIx K) (tVar 8) (tC (.int 0)))
              (fun n => (fun _ : PyData => true) ((ds.take i).getD n .none)) (fun n => (fun y : PyData => V.int (momentOf y)) ((ds.take i).getD n .none)) (es_take (ev_var rfl) (hq1.ex e16) (eo_some (ev_var rfl)) hil) (by rw [List.length_take]; omega) (fun x => rfl) (fun n y H7 e7 hy => ey) (fun n y H7 e7 hy _ => by
                have hni : n < i := by
                  have := (List.getElem?_eq_some_iff.mp hy).1
                  rw [List.length_take] at this; omega
                rw [List.getElem?_take_of_lt hni] at hy
                obtain ⟨dy, hdy, hvy⟩ := da_get ha hy
                have hsome := hprev n dy hni hdy
                obtain ⟨⟨m3, j3⟩, hn3⟩ := Option.isSome_iff_exists.mp hsome
                obtain ⟨hs3, _⟩ := news_at hn3
                obtain ⟨a3, us3, rfl, hq3, hau3⟩ := dp_seq hvy hs3
                have hget : (ds.take i).getD n .none = dy := getD_of (by rw [List.getElem?_take_of_lt hni]; exact hdy)
                rw [hget]
                show Ev _ _ _ (V.int (momentOf dy))
                rw [news_moment hn3]
                cases hau3 with
                | cons h1 h2 =>
                  cases h2 with
                  | cons h2 h3 =>
                    cases h3
                    cases h1
                    exact ev_ixS (ev_var rfl) ev_c (hq3.ex (e16.trans e7)) rfl)
            have el : (xs.take i).length = (ds.take i).length := by rw [List.length_take, List.length_take, hxl]
            have ef : ((ds.take i).filter fun _ : PyData => true).map (fun y : PyData => V.int (momentOf y)) = ((ds.take i).map momentOf).map V.int := by
              rw [List.filter_eq_self.mpr (fun _ _ => rfl), List.map_map]; rfl
            exact g.to (by rw [el]; exact (given_list (ds.take i) (fun _ : PyData => true) (fun y : PyData => V.int (momentOf y)) .none).trans ef)
          refine q_asgL heard fun ph H7 _ e7 h7 => ?_
          show tSeq _ _ _ [some m, some (.ref p2), some (.ref a), some (.ref q), some (.int (i : Nat)), some (.ref ax), some (.ref ph), y7, none, none] H7
          have e17 := e16.trans e7
          -- late = len([..])
          have late : EvL (tLc (iSeq K (tVar 6)) (gName 9) (tTest (tOp (rI0 fun i j => .bl (decide (j < i))) (tVar 9) (tOp (rIx K) (tVar 5) (tC (.int 0))))) (tVar 9) [9]) [some m, some (.ref p2), some (.ref a), some (.ref q), some (.int (i : Nat)), some (.ref ax), some (.ref ph), y7, none, none] H7 ((((ds.take i).map momentOf).filter fun z => decide (mm < z)).map V.int) := by
            have g := el_lcQ (K := K) (tl := tVar 6) (σ := [some m, some (.ref p2), some (.ref a), some (.ref q), some (.int (i : Nat)), some (.ref ax), some (.ref ph), y7, none, none]) (H := H7) (j := 9) (vs := [9]) (xs := ((ds.take i).map momentOf).map V.int) (t := tTest (tOp (rI0 fun i j => .bl (decide (j < i))) (tVar 9) (tOp (rIx K) (tVar 5) (tC (.int 0))))) (te := tVar 9)
              (fun n => (fun z : Int => decide (mm < z)) (((ds.take i).map momentOf).getD n 0)) (fun n => V.int (((ds.take i).map momentOf).getD n 0)) (es_of (ev_var rfl) (.inl (sq_of h7))) (by rw [List.length_map, List.length_map, List.length_take]; omega) (fun x => rfl) (fun n y H8 e8 hy => by
                rw [List.getElem?_map] at hy
                obtain ⟨z, hz, rfl⟩ := Option.map_eq_some_iff.mp hy
                rw [getD_of hz]
                exact et_test (ev_gtI (ev_var rfl) (ev_ixS (ev_var rfl) ev_c (hqx.ex (e17.trans e8)) rfl))) (fun n y H8 e8 hy _ => by
                rw [List.getElem?_map] at hy
                obtain ⟨z, hz, rfl⟩ := Option.map_eq_some_iff.mp hy
                rw [getD_of hz]
                exact ev_var rfl)
            exact g.to (by rw [List.length_map]; exact given_list ((ds.take i).map momentOf) (fun z : Int => decide (mm < z)) V.int 0)
          refine q_asg (ev_lenL (es_L late)) fun H8 e8 => ?_
          rw [List.length_map]
          show tIfS _ _ _ _ [some m, some (.ref p2), some (.ref a), some (.ref q), some (.int (i : Nat)), some (.ref ax), some (.ref ph), some (.int (lateOf ((ds.take i).map momentOf) mm)), none, none] H8
          have e18 := e17.trans e8
          have kin : EvS K (tCall (SpTup (RKin K) 2) [] E0 (tCons (tVar 1) (tCons (tVar 7) tNil))) [some m, some (.ref p2), some (.ref a), some (.ref q), some (.int (i : Nat)), some (.ref ax), some (.ref ph), some (.int (lateOf ((ds.take i).map momentOf) mm)), none, none] H8 ((kindsAt ls (lateOf ((ds.take i).map momentOf) mm)).map V.int) :=
            es_tup (vs := [.ref p2, .int (lateOf ((ds.take i).map momentOf) mm)]) (ea_cons (ev_var rfl) (ea_cons (ev_var rfl) ea_nil)) rfl fun H9 e9 => ⟨p2, ls, _, rfl, ex_t (((((e25.trans e6).trans e7).trans e8)).trans e9) hp2, by rw [ok.len]; omega, rfl⟩
          have tst := et_or (et_test (ev_op (ev_ixS (ev_var (i := 5) rfl) (ev_c (v := .int 0)) (hqx.ex e18) (v := .int mm) rfl) (ev_var (i := 6) rfl) (rv_isL (K := K) (sq_of (e8 _ _ h7)) rfl (flat_ints _))))
            fun _ => et_test (ev_opS (ev_ixS (ev_var (i := 5) rfl) (ev_c (v := .int 1)) (hqx.ex e18) (v := .int jj) rfl) kin fun p9 H9 hp9 e9 => hp9.elim (fun z => rv_niL (K := K) z rfl (flat_ints _)) fun z => rv_niT (K := K) z rfl (flat_ints _))
          have hbad : (inV (.int mm) (((ds.take i).map momentOf).map V.int) || !inV (.int jj) ((kindsAt ls (lateOf ((ds.take i).map momentOf) mm)).map V.int)) = newsBad ls ((ds.take i).map momentOf) dx := by
            unfold newsBad
            rw [ok.len, hn, inV_ints, inV_ints]
            show _ = (List.contains _ mm || !(openAt _ _))
            congr 2
            have := openAt_in ls (lateOf ((ds.take i).map momentOf) mm) jj hj1.1 (by rw [ok.len]; exact hj1.2)
            rw [Bool.eq_iff_iff, List.contains_iff_mem]
            exact this
          rw [hbad] at tst
          cases hb : newsBad ls ((ds.take i).map momentOf) dx with
          | true =>
            rw [hb] at tst
            exact s_when (b := true) tst (fun _ H9 e9 => s_raise (ev_var rfl) ((kF _ (fault_at hb)).ex (e18.trans e9))) (fun z => nomatch z)
          | false =>
            rw [hb] at tst
            refine s_when (b := false) tst (fun z => nomatch z) fun _ H9 e9 => ⟨⟨_, _, _, _, rfl⟩, ((((e5.trans e6).trans e7).trans e8).trans e9), ?_, fun j y hj hy => ?_⟩
            · rw [hF, hdrop]
              conv => lhs; unfold faultFrom
              rw [hb, if_neg Bool.false_ne_true]
              have : ds.take (i + 1) = ds.take i ++ [dx] := by
                rw [List.take_succ, hdx]; rfl
              rw [this, List.map_append]
              rfl
            · rcases Nat.lt_succ_iff_lt_or_eq.mp hj with z | z
              · exact hprev j y z hy
              · subst z; rw [hdx] at hy; cases hy; rw [ok.len, hn]; rfl
      · obtain ⟨⟨y4, y5, y6, y7, rfl⟩, e4, hF, hprev⟩ := p
        have e14 := e13.trans e4
        have hnone : toldFault ls d = none := by
          rw [hF, hxl, List.drop_length]; rfl
        -- tuple([tuple(news) for news in value])
        have lc := lc_new (K := K) (tl := tVar 2) (σ := [some m, some (.ref p2), some (.ref a), some (.ref q), y4, y5, y6, y7, none, none]) (H := H4) (j := 5) (vs := [5]) (te := tCB (rTupS K) (tCons (tVar 5) tNil)) (es_of (ev_var rfl) (hq1.ex e14)) (by rw [hxl]; omega) (fun x => rfl)
          (fun i G y => ∃ dx, ds[i]? = some dx ∧ Dp K G y (toTupP dx)) (fun i y G G' e ⟨dx, h1, h2⟩ => ⟨dx, h1, h2.ex e⟩) (fun i x Dl H5 hx e5 hDn hDf Qn kn => by
            obtain ⟨dx, hdx, hvx⟩ := da_get ha hx
            have hil : i < ds.length := (List.getElem?_eq_some_iff.mp hdx).1
            obtain ⟨⟨m3, j3⟩, hn3⟩ := Option.isSome_iff_exists.mp (hprev i dx (by omega) hdx)
            obtain ⟨hs3, _⟩ := news_at hn3
            have htp : toTupP dx = .tuple [.int m3, .int j3] := by unfold toTupP; rw [hs3]
            have hv4 := hvx.ex e14
            obtain ⟨a3, us3, rfl, hq3, hau3⟩ := dp_seq hv4 hs3
            refine ⟨_, rfl, a3, us3, rfl, ?_⟩
            rcases hq3 with hL | hT
            · refine .inl ⟨ex_l e5 hL, fun l hl => kn _ _ (Ex.new hl) ⟨dx, hdx, ?_⟩⟩
              rw [htp]
              have ne : l ≠ Dl := fun z => hDn (z ▸ hl)
              exact .tup (st_of (hide_at upd_same ne)) (hau3.ex (hide_ex (e5.trans (Ex.new hl)) hDf))
            · refine .inr ⟨ex_t e5 hT, kn _ _ (Ex.refl _) ⟨dx, hdx, ?_⟩⟩
              rw [htp]
              exact .tup (ex_t (hide_ex e5 hDf) hT) (hau3.ex (hide_ex e5 hDf)))
        show tLc (iSeq K (tVar 2)) (gName 5) tYes (tCB (rTupS K) (tCons (tVar 5) tNil)) [5] _ H4 fun x H5 => rTupS K [x] H5 Q
        refine lc H4 (Ex.refl _) _ fun pl H5 acc e5 hpn hpl hacc hP => ⟨pl, acc, rfl, .inl ⟨sq_of hpl, fun r hr => ?_⟩⟩
        refine kR hnone (.ref r) _ ((e14.trans e5).trans (Ex.new hr)) (.tup (st_of upd_same) (da_mk ?_ fun n y dy hy hdy => ?_))
        · rw [hacc, hxl, List.length_map]; unfold itemsD; rw [hsd]; rfl
        · obtain ⟨dx, h1, h2⟩ := hP n y hy
          have : dy = toTupP dx := by
            unfold itemsD at hdy
            rw [hsd, List.getElem?_map] at hdy
            have z : (some ds : Option (List PyData)).getD [] = ds := rfl
            rw [z, h1] at hdy
            exact (Option.some.inj hdy).symm
          rw [this]
          exact h2.ex (Ex.trans hide_le (Ex.new hr))
end
end Fw
/-! the law's box and its draws -/
namespace Fw
open PySem PySem.Spec PyProof.Rows L2 Evl
section
variable {K : Kf} {σ : L2.St} {H : Hp} {te ta tb : TE} {i j : Int}
theorem ev_addI (ha : Ev ta σ H (.int i)) (hb : Ev tb σ H (.int j)) : Ev (tOp (rI0 fun i j => .int (i + j)) ta tb) σ H (.int (i + j)) := ev_op ha hb (rv_I0 (g := fun i j => .int (i + j)))
theorem ev_subI (ha : Ev ta σ H (.int i)) (hb : Ev tb σ H (.int j)) : Ev (tOp (rI0 fun i j => .int (i - j)) ta tb) σ H (.int (i - j)) := ev_op ha hb (rv_I0 (g := fun i j => .int (i - j)))
theorem ev_mulI (ha : Ev ta σ H (.int i)) (hb : Ev tb σ H (.int j)) (hc : CMul i j) : Ev (tOp (rI CMul fun i j => .int (i * j)) ta tb) σ H (.int (i * j)) := ev_op ha hb (rv_I (g := fun i j => .int (i * j)) hc)
theorem ev_modI (ha : Ev ta σ H (.int i)) (hb : Ev tb σ H (.int j)) (hc : 0 < j) : Ev (tOp (rI (fun _ j => 0 < j) fun i j => .int (i % j)) ta tb) σ H (.int (i % j)) := ev_op ha hb (rv_I (C := fun _ j => 0 < j) (g := fun i j => .int (i % j)) hc)
theorem ev_fdivI (ha : Ev ta σ H (.int i)) (hb : Ev tb σ H (.int j)) (hc : CDiv i j) : Ev (tOp (rI CDiv fun i j => .int (i / j)) ta tb) σ H (.int (i / j)) := ev_op ha hb (rv_I (g := fun i j => .int (i / j)) hc)
theorem ev_powI (ha : Ev ta σ H (.int i)) (hb : Ev tb σ H (.int j)) (hc : CPow i j) : Ev (tOp (rI CPow fun i j => .int (i ^ j.toNat)) ta tb) σ H (.int (i ^ j.toNat)) := ev_op ha hb (rv_I (g := fun i j => .int (i ^ j.toNat)) hc)
def rIntC : List V → Hp → VK → Prop := fun xs H Q => (∃ i, xs = [.int i] ∧ Q (.int i) H) ∨ ∃ k, xs = [.bl k] ∧ Q (.int (if k then 1 else 0)) H
def rAbs : List V → Hp → VK → Prop := fun xs H Q => ∃ i, xs = [.int i] ∧ Q (.int (if i < 0 then -i else i)) H
theorem ev_int1 (h : Ev te σ H (.int i)) : Ev (tCB rIntC (tCons te tNil)) σ H (.int i) := fun H1 e Q q => h H1 e _ fun H2 e2 => .inl ⟨i, rfl, q H2 e2⟩
theorem ev_intB {b : Bool} (h : Ev te σ H (.bl b)) : Ev (tCB rIntC (tCons te tNil)) σ H (.int (if b then 1 else 0)) := fun H1 e Q q => h H1 e _ fun H2 e2 => .inr ⟨b, rfl, q H2 e2⟩
theorem ev_abs (h : Ev te σ H (.int i)) : Ev (tCB rAbs (tCons te tNil)) σ H (.int (if i < 0 then -i else i)) := fun H1 e Q q => h H1 e _ fun H2 e2 => ⟨i, rfl, q H2 e2⟩
/-- [..][i] -/
theorem ev_ixN {xs : List V} {v : V} (h : EvL ta σ H xs) (hi : Ev tb σ H (.int i)) (hv : atI xs i = some v) : Ev (tOp (rIx K) ta tb) σ H v := fun H1 e Q q =>
  h H1 e _ fun p H2 _ e2 hp => hi H2 (e.trans e2) _ fun H3 e3 => .inl ⟨p, xs, i, v, rfl, rfl, sq_of (e3 _ _ hp), hv, q H3 (e2.trans e3)⟩
end
section
variable {X : Cx} {e : Expr} {te : TE} {p pos : Pos}
theorem pe_intC (B : Blt X.mg) (hg : Gl X "int") (he : PE X e te) (hs : starEach (e :: []) X.env = (false, eval e X.env) :: starEach [] X.env := by rfl) (hpl : (backTo pos (starEach [] X.env)).any (·.1) = false := by rfl) :
    PE X (.Call (.Name "int" p) [e] [] pos) (tCB rIntC (tCons te tNil)) := pe_callTy call_int1 hg B.int bt_int (pa_cons he pa_nil hs) (by decide) (by decide) hs hpl
theorem pe_abs (B : Blt X.mg) (hg : Gl X "abs") (he : PE X e te) (hs : starEach (e :: []) X.env = (false, eval e X.env) :: starEach [] X.env := by rfl) (hpl : (backTo pos (starEach [] X.env)).any (·.1) = false := by rfl) :
    PE X (.Call (.Name "abs" p) [e] [] pos) (tCB rAbs (tCons te tNil)) := pe_callB call_abs hg B.abs bt_abs (pa_cons he pa_nil hs) (by decide) (by decide) hs hpl
end
section
variable {P : Program} {w : World} {K : Kf} {mg : Str → Option Value} {base : Heap}
/-! ### _law_box -/
abbrev sBox : Stmt := topS 30
def spBox (K : Kf) : Sp := fun vs H Q _ => ∃ (a : Addr) (ns : List Int) (k : Int), vs = [.ref a, .int k] ∧ SqL K H a (ns.map V.int) ∧ 0 ≤ k ∧ k ≤ 100 ∧ ∀ p H', Ex H H' → H p = none → Box H' p → Q (.ref p) H'
theorem scBox : FnScope ["_law_script", "_law_k", "_law_cell"] ["_law_script", "_law_k"] (defScope sBox) := ⟨rfl, rfl, rfl, by decide +kernel, rfl, by decide +kernel, by decide +kernel⟩
theorem cmul_r {i j : Int} (h : -(2 ^ 64) < j ∧ j < 2 ^ 64) : CMul i j := .inr h
theorem cmul_l {i j : Int} (h : -(2 ^ 64) < i ∧ i < 2 ^ 64) : CMul i j := .inl h
theorem ok_box {f : Addr} {fd : FuncData} (D : Dfn K mg "_law_box" sBox ["_law_script", "_law_k"] f fd) (B : Blt mg) : FnOk P w K mg base CX0 1 f fd ["_law_script", "_law_k"] (spBox K) := by
  refine D.F.ok scBox (fun vs H Q E h => ?_) (fun cdv A outer s H vs Q E hr h => ?_)
  · obtain ⟨a, ns, k, rfl, _⟩ := h
    rfl
  obtain ⟨a, ns, k, rfl, hs, k0, k1, kQ⟩ := h
  refine ⟨_, pss_cons (ps_set (i := 2) scBox.nd rfl (.inl rfl) (pe_op op_add (pe_op op_mul pe_int (pv 1)) pe_int))
    (pss_cons (ps_if (pt_cmpR op_lt (pv 1) (pe_len B (by rfl) (pv 0)) (nomark _))
      (pss_one (ps_set (i := 2) scBox.nd rfl (.inl rfl) (pe_abs B (by rfl) (pe_ix ix_seq (pv 0) (pv 1) (fun _ _ => rfl)))))
      (pss_one (ps_if (pt_cmpR op_gt (pe_len B (by rfl) (pv 0)) pe_int (nomark _))
        (pss_one (ps_set (i := 2) scBox.nd rfl (.inl rfl) (pe_op op_add (pv 2) (pe_op op_mul (pe_op op_mod (pe_intC B (by rfl) (pe_abs B (by rfl) (pe_ix ix_seq (pv 0) (pe_op op_mod (pe_intC B (by rfl) (pv 1)) (pe_len B (by rfl) (pv 0))) (fun _ _ => rfl)))) pe_int) pe_int)))) pss_nil)))
    (pss_one (ps_ret (pe_lst (pa_cons (pe_ix ix_seq (pe_lst (pa_cons pe_int (pa_cons (pv 2) pa_nil))) (pe_intC B (by rfl) (pe_cmpR op_ge (pv 2) (pe_op op_pow pe_int pe_int) (nomark _))) (fun _ _ => rfl))
      (pa_cons (pe_op op_add (pe_op op_mod (pe_intC B (by rfl) (pe_op op_add (pe_op op_mul (pe_op op_mod (pe_intC B (by rfl) (pv 2)) pe_int) pe_int) (pe_op op_mul pe_int (pv 1)))) pe_int) pe_int)
      (pa_cons pe_int pa_nil))))))), ?_⟩
  refine q_asg (v := .int (6091 * k + 313)) (ev_addI (ev_mulI ev_c (ev_var rfl) (cmul_l (by decide))) ev_c) fun H1 e1 => ?_
  show tSeq _ _ _ [some (.ref a), some (.int k), some (.int (6091 * k + 313))] H1
  have fin : ∀ (c : Int) (H2 : Hp), Ex H H2 → tRet _ { nx := fun _ H' => Q .non H', rt := Q } [some (.ref a), some (.int k), some (.int c)] H2 := fun c H2 e2 => by
    refine s_retL (xs := [.int _, .int _, .int _]) (el_lst (ea_cons (ev_ixN (K := K) (el_lst (ea_cons (ev_c (v := .int 0)) (ea_cons (ev_var (i := 2) (v := .int c) rfl) ea_nil)) (by show 2 ≤ 100000; decide)) (ev_intB (ev_geI (ev_var (i := 2) rfl) (ev_powI (i := 10) (j := 18) ev_c ev_c ⟨by decide, by decide, by decide⟩))) (v := .int (if decide ((10 : Int) ^ (18 : Int).toNat ≤ c) then c else 0)) ?_)
      (ea_cons (ev_addI (ev_modI (ev_int1 (ev_addI (ev_mulI (ev_modI (ev_int1 (ev_var (i := 2) rfl)) (ev_c (v := .int 2147483629)) (by decide)) (ev_c (v := .int 44111)) (cmul_r (by decide))) (ev_mulI (ev_c (v := .int 51203)) (ev_var (i := 1) rfl) (cmul_l (by decide))))) (ev_c (v := .int 2147483629)) (by decide)) (ev_c (v := .int 1)))
      (ea_cons (ev_c (v := .int 0)) ea_nil))) (by show 3 ≤ 100000; decide)) fun p H3 hp e3 h3 => kQ p H3 (e2.trans e3) (fresh_back e2 hp) ⟨_, _, _, h3⟩
    cases decide ((10 : Int) ^ (18 : Int).toNat ≤ c) <;> rfl
  have hlen : (ns.map V.int).length = ns.length := List.length_map ..
  refine q_if (b := decide (k < (ns.length : Int))) (et_test (by rw [← hlen]; exact ev_ltI (ev_var rfl) (ev_lenS (ev_var rfl) (.inl (ex_l e1 hs))))) (fun hb H2 e2 => ?_) (fun hb H2 e2 => ?_)
  · have hk : k < (ns.length : Int) := of_decide_eq_true hb
    obtain ⟨x, hx⟩ : ∃ x, ns[k.toNat]? = some x := ⟨_, List.getElem?_eq_getElem (by omega)⟩
    refine s_asg (ev_abs (i := x) (ev_ixS (K := K) (a := a) (xs := ns.map V.int) (i := k) (ev_var rfl) (ev_var rfl) (.inl (ex_l (e1.trans e2) hs)) ?_)) fun H3 e3 => fin _ H3 ((e1.trans e2).trans e3)
    have : (k : Int) = ((k.toNat : Nat) : Int) := by omega
    rw [this]
    exact atI_nat (by rw [List.getElem?_map, hx]; rfl)
  · refine s_when (b := decide ((0 : Int) < (ns.length : Int))) (et_test (by rw [← hlen]; exact ev_gtI (ev_lenS (ev_var rfl) (.inl (ex_l (e1.trans e2) hs))) ev_c)) (fun hb2 H3 e3 => ?_) (fun _ H3 e3 => fin _ H3 ((e1.trans e2).trans e3))
    have hn : (0 : Int) < (ns.length : Int) := of_decide_eq_true hb2
    have r1 := Int.emod_nonneg k (by omega : (ns.length : Int) ≠ 0)
    have r2 := Int.emod_lt_of_pos k hn
    obtain ⟨x, hx⟩ : ∃ x, ns[(k % (ns.length : Int)).toNat]? = some x := ⟨_, List.getElem?_eq_getElem (by omega)⟩
    refine s_asg (ev_addI (ev_var (v := .int (6091 * k + 313)) rfl) (ev_mulI (ev_modI (ev_int1 (ev_abs (i := x) (ev_ixS (K := K) (a := a) (xs := ns.map V.int) (i := k % (ns.length : Int)) (ev_var rfl) (ev_modI (ev_int1 (ev_var rfl)) (by rw [← hlen]; exact ev_lenS (ev_var rfl) (.inl (ex_l ((e1.trans e2).trans e3) hs))) hn) (.inl (ex_l ((e1.trans e2).trans e3) hs)) ?_))) ev_c (by decide)) ev_c (cmul_r (by decide)))) fun H4 e4 => fin _ H4 (((e1.trans e2).trans e3).trans e4)
    have : (k % (ns.length : Int)) = (((k % (ns.length : Int)).toNat : Nat) : Int) := by omega
    rw [this]
    exact atI_nat (by rw [List.getElem?_map, hx]; rfl)
end
theorem bx_put {b : Addr} {H H1 : Hp} {x y z : Int} (h : Bx (oneB b) H H1) : Bx (oneB b) H (upd H1 b (.lst [.int x, .int y, .int z])) :=
  ⟨fun a o hn e => by rw [upd_ne hn]; exact h.keep a o hn e, fun c hc _ => by rw [show c = b from hc]; exact ⟨x, y, z, upd_same⟩⟩
theorem bx_ex {S : Addr → Prop} {H H1 H2 : Hp} (h : Bx S H H1) (e : Ex H1 H2) : Bx S H H2 := h.trans (.of e)
/-- a box as data -/
abbrev bxV (x y z : Int) : HO := .lst [.int x, .int y, .int z]
section
variable {K : Kf} {σ : L2.St} {H : Hp} {D : Ends} {te ta tb : TE} {tz : TS} {b : Addr} {x y z v : Int}
theorem ev_b0 (h : Ev ta σ H (.ref b)) (hb : H b = some (bxV x y z)) : Ev (tOp (rIx K) ta (tC (.int 0))) σ H (.int x) := ev_ixS h ev_c (.inl (sq_of hb)) rfl
theorem ev_b1 (h : Ev ta σ H (.ref b)) (hb : H b = some (bxV x y z)) : Ev (tOp (rIx K) ta (tC (.int 1))) σ H (.int y) := ev_ixS h ev_c (.inl (sq_of hb)) rfl
theorem ev_b2 (h : Ev ta σ H (.ref b)) (hb : H b = some (bxV x y z)) : Ev (tOp (rIx K) ta (tC (.int 2))) σ H (.int z) := ev_ixS h ev_c (.inl (sq_of hb)) rfl
theorem q_b0 (hb : H b = some (bxV x y z)) (h : Ev te σ H (.int v)) (ho : Ev ta σ H (.ref b)) (k : ∀ H1, Ex H H1 → tz D σ (upd H1 b (bxV v y z))) : tSeq (tAsg te (gSub ta (tC (.int 0)) rSetL)) tz D σ H := q_setL (j := 0) hb h ho ev_c (by show 0 < 3; decide) k
theorem q_b1 (hb : H b = some (bxV x y z)) (h : Ev te σ H (.int v)) (ho : Ev ta σ H (.ref b)) (k : ∀ H1, Ex H H1 → tz D σ (upd H1 b (bxV x v z))) : tSeq (tAsg te (gSub ta (tC (.int 1)) rSetL)) tz D σ H := q_setL (j := 1) hb h ho ev_c (by show 1 < 3; decide) k
theorem q_b2 (hb : H b = some (bxV x y z)) (h : Ev te σ H (.int v)) (ho : Ev ta σ H (.ref b)) (k : ∀ H1, Ex H H1 → tz D σ (upd H1 b (bxV x y v))) : tSeq (tAsg te (gSub ta (tC (.int 2)) rSetL)) tz D σ H := q_setL (j := 2) hb h ho ev_c (by show 2 < 3; decide) k
end
section
variable {P : Program} {w : World} {K : Kf} {mg : Str → Option Value} {base : Heap}
/-! ### _law_take, _law_pick -/
abbrev sTake : Stmt := topS 31
def spTake : Sp := fun vs H Q _ => ∃ (b : Addr) (n : Int), vs = [.ref b, .int n] ∧ Box H b ∧ 0 < n ∧ n < 1073741824 ∧ ∀ r H', 0 ≤ r → r < n → Bx (oneB b) H H' → Q (.int r) H'
theorem scTake : FnScope ["_law_box_here", "_law_many", "_law_digit", "_law_raw"] ["_law_box_here", "_law_many"] (defScope sTake) := ⟨rfl, rfl, rfl, by decide +kernel, rfl, by decide +kernel, by decide +kernel⟩
theorem ok_take {f : Addr} {fd : FuncData} (D : Dfn K mg "_law_take" sTake ["_law_box_here", "_law_many"] f fd) (B : Blt mg) : FnOk P w K mg base CX0 1 f fd ["_law_box_here", "_law_many"] spTake := by
  refine D.F.ok scTake (fun vs H Q E h => ?_) (fun cdv A outer s H vs Q E hr h => ?_)
  · obtain ⟨b, n, rfl, _⟩ := h
    rfl
  obtain ⟨b, n, rfl, ⟨x, y, z, hb⟩, n0, n1, k⟩ := h
  refine ⟨_, pss_cons (ps_if (pt_cmpR op_gt (pe_ix ix_seq (pv 0) pe_int (fun _ _ => rfl)) pe_int (nomark _))
      (pss_cons (ps_set (i := 2) scTake.nd rfl (.inl rfl) (pe_op op_mod (pe_intC B (by rfl) (pe_ix ix_seq (pv 0) pe_int (fun _ _ => rfl))) (pv 1)))
      (pss_cons (ps_asg (pe_op op_fdiv (pe_ix ix_seq (pv 0) pe_int (fun _ _ => rfl)) (pv 1)) (pg_sub (pv 0) pe_int set_list))
      (pss_one (ps_ret (pv 2))))) pss_nil)
    (pss_cons (ps_asg (pe_op op_add (pe_ix ix_seq (pv 0) pe_int (fun _ _ => rfl)) pe_int) (pg_sub (pv 0) pe_int set_list))
    (pss_cons (ps_set (i := 3) scTake.nd rfl (.inl rfl) (pe_op op_mod (pe_intC B (by rfl) (pe_op op_add (pe_op op_mul (pe_op op_add (pe_ix ix_seq (pv 0) pe_int (fun _ _ => rfl)) (pe_op op_mul pe_int (pe_ix ix_seq (pv 0) pe_int (fun _ _ => rfl)))) pe_int) pe_int)) pe_int))
    (pss_cons (ps_asg (pe_op op_add (pe_op op_mod (pe_intC B (by rfl) (pe_op op_add (pe_op op_mul (pv 3) pe_int) pe_int)) pe_int) pe_int) (pg_sub (pv 0) pe_int set_list))
    (pss_one (ps_ret (pe_op op_mod (pe_intC B (by rfl) (pe_op op_fdiv (pe_op op_add (pe_op op_mul (pv 3) pe_int) (pe_ix ix_seq (pv 0) pe_int (fun _ _ => rfl))) pe_int)) (pv 1))))))), ?_⟩
  refine q_when (b := decide ((0 : Int) < x)) (et_test (ev_gtI (ev_b0 (ev_var rfl) hb) ev_c)) (fun _ H1 e1 => ?_) (fun _ H1 e1 => ?_)
  · refine q_asg (ev_modI (ev_int1 (ev_b0 (ev_var rfl) (e1 _ _ hb))) (ev_var (v := .int n) rfl) n0) fun H2 e2 => ?_
    refine q_b0 (e2 _ _ (e1 _ _ hb)) (ev_fdivI (ev_b0 (ev_var rfl) (e2 _ _ (e1 _ _ hb))) (ev_var (v := .int n) rfl) ⟨n0, n1⟩) (ev_var rfl) fun H3 e3 => ?_
    exact s_ret (ev_var rfl) fun H4 e4 => k _ H4 (Int.emod_nonneg _ (by omega)) (Int.emod_lt_of_pos _ n0) (bx_ex (bx_put (.of ((e1.trans e2).trans e3))) e4)
  · have b1 := e1 _ _ hb
    refine q_b2 b1 (ev_addI (ev_b2 (ev_var rfl) b1) ev_c) (ev_var rfl) fun H2 e2 => ?_
    refine q_asg (ev_modI (ev_int1 (ev_addI (ev_mulI (ev_addI (ev_b1 (ev_var rfl) upd_same) (ev_mulI ev_c (ev_b2 (ev_var rfl) upd_same) (cmul_l (by decide)))) ev_c (cmul_r (by decide))) ev_c)) ev_c (by decide)) fun H3 e3 => ?_
    have b3 := e3 _ _ (upd_same : (upd H2 b (bxV x y (z + 1))) b = _)
    refine q_b1 b3 (ev_addI (ev_modI (ev_int1 (ev_addI (ev_mulI (ev_var rfl) ev_c (cmul_r (by decide))) ev_c)) ev_c (by decide)) ev_c) (ev_var rfl) fun H4 e4 => ?_
    exact s_ret (ev_modI (ev_int1 (ev_fdivI (ev_addI (ev_mulI (ev_var rfl) ev_c (cmul_r (by decide))) (ev_b1 (ev_var rfl) upd_same)) ev_c ⟨by decide, by decide⟩)) (ev_var (v := .int n) rfl) n0) fun H5 e5 =>
      k _ H5 (Int.emod_nonneg _ (by omega)) (Int.emod_lt_of_pos _ n0) (bx_ex (bx_put (bx_ex (bx_ex (bx_put (.of (e1.trans e2))) e3) e4)) e5)
abbrev sPick : Stmt := topS 32
def spPick : Sp := fun vs H Q _ => ∃ (b a : Addr) (xs : List V), vs = [.ref b, .ref a] ∧ Box H b ∧ a ≠ b ∧ H a = some (.lst xs) ∧ 0 < xs.length ∧ xs.length ≤ 1000 ∧ ∀ x H', x ∈ xs → Bx (oneB b) H H' → Q x H'
theorem scPick : FnScope ["_law_box_here", "_law_some"] ["_law_box_here", "_law_some"] (defScope sPick) := ⟨rfl, rfl, rfl, by decide +kernel, rfl, by decide +kernel, by decide +kernel⟩
theorem ok_pick {f f1 : Addr} {fd fd1 : FuncData} (D : Dfn K mg "_law_pick" sPick ["_law_box_here", "_law_some"] f fd) (D1 : Dfn K mg "_law_take" sTake ["_law_box_here", "_law_many"] f1 fd1) (B : Blt mg) : FnOk P w K mg base CX0 2 f fd ["_law_box_here", "_law_some"] spPick := by
  refine D.F.ok scPick (fun vs H Q E h => ?_) (fun cdv A outer s H vs Q E hr h => ?_)
  · obtain ⟨b, a, xs, rfl, _⟩ := h
    rfl
  obtain ⟨b, a, xs, rfl, hb, ne, ha, l0, l1, k⟩ := h
  refine ⟨_, pss_one (ps_ret (pe_ix ix_seq (pv 1) (pe_dfn (ok_take D1 B) D1 hr (by rfl) (pa_cons (pv 0) (pa_cons (pe_len B (by rfl) (pv 1)) pa_nil))) (fun _ _ => rfl))), ?_⟩
  refine ⟨_, rfl, _, rfl, _, rfl, a, xs, rfl, .inl (sq_of ha), b, (xs.length : Int), rfl, hb, by omega, by omega, fun r H' r0 r1 bx => ?_⟩
  have hlt : r.toNat < xs.length := by omega
  refine .inl ⟨a, xs, r, xs[r.toNat], rfl, rfl, sq_of (bx.keep a _ ne ha), ?_, k _ H' (List.getElem_mem _) bx⟩
  have e : r = ((r.toNat : Nat) : Int) := by omega
  conv => lhs; rw [e]
  exact atI_nat (List.getElem?_eq_getElem hlt)
end
end Fw
/-! drawn machines and lateness -/
namespace Fw
open PySem PySem.Spec PyProof.Rows L2 Evl
/-- the law's draws -/
structure DDr (K : Kf) (mg : Str → Option Value) (t1 t2 t3 : Addr) (c1 c2 c3 : FuncData) : Prop where
  take : Dfn K mg "_law_take" sTake ["_law_box_here", "_law_many"] t1 c1
  pick : Dfn K mg "_law_pick" sPick ["_law_box_here", "_law_some"] t2 c2
  map : Dfn K mg "_law_map" (topS 33) ["_law_box_here", "_law_states"] t3 c3
def rngI (n : Nat) (ns : List Int) : Prop := ns.length = n ∧ ∀ x ∈ ns, 0 ≤ x ∧ x < (n : Int)
theorem ne_box {b p : Addr} {H : Hp} (hb : Box H b) (hp : H p = none) : p ≠ b := fun z => by obtain ⟨x, y, w, e⟩ := hb; rw [← z, hp] at e; cases e
theorem Box.ex {b : Addr} {H H' : Hp} (h : Box H b) (e : Ex H H') : Box H' b := let ⟨x, y, z, q⟩ := h; ⟨x, y, z, e b _ q⟩
theorem Bx.bo {b : Addr} {H H' : Hp} (h : Bx (oneB b) H H') (hb : Box H b) : Box H' b := h.box b rfl hb
theorem bx_free {b p : Addr} {H H' : Hp} (h : Bx (oneB b) H H') (hb : Box H b) (hp : H' p = none) : H p = none := by
  cases e : H p with
  | none => rfl
  | some o =>
    have ne : p ≠ b := fun z => by
      obtain ⟨x, y, w, q⟩ := h.bo hb
      rw [← z, hp] at q; cases q
    rw [h.keep p o ne e] at hp; cases hp
theorem bx_upd {b p : Addr} {H H' : Hp} {o : HO} (h : Bx (oneB b) H H') (hb : Box H b) (hp : H p = none) : Bx (oneB b) H (upd H' p o) :=
  ⟨fun a u hn e => by rw [upd_ne (ne_of_none e hp)]; exact h.keep a u hn e, fun c hc _ => by
    obtain ⟨x, y, w, q⟩ := h.bo hb
    rw [show c = b from hc]
    exact ⟨x, y, w, by rw [upd_ne (ne_box hb hp).symm]; exact q⟩⟩
section
variable {P : Program} {w : World} {K : Kf} {mg : Str → Option Value} {base : Heap} {t1 t2 t3 : Addr} {c1 c2 c3 : FuncData}
/-! ### _law_map -/
abbrev sMap : Stmt := topS 33
def spMap : Sp := fun vs H Q _ => ∃ (b : Addr) (n : Nat), vs = [.ref b, .int n] ∧ Box H b ∧ 1 ≤ n ∧ n ≤ 8 ∧ ∀ p H' ns, Bx (oneB b) H H' → H p = none → H' p = some (.tup (ns.map V.int)) → rngI n ns → Q (.ref p) H'
theorem scMap : FnScope ["_law_box_here", "_law_states", "_law_kind", "_law_row", "_law_state"] ["_law_box_here", "_law_states"] (defScope sMap) := ⟨rfl, rfl, rfl, by decide +kernel, rfl, by decide +kernel, by decide +kernel⟩
theorem flat_rep (n : Nat) (v : V) : (List.replicate n [v]).flatten = List.replicate n v := by
  induction n with
  | zero => rfl
  | succ n ih => rw [List.replicate_succ, List.flatten_cons, ih]; rfl
theorem rg_ints (a : Int) (n : Nat) : rgV a (a + n) = ((List.range n).map fun i : Nat => a + (i : Int)).map V.int := by
  unfold rgV
  rw [List.map_map, show (a + (n : Int) - a).toNat = n by omega]
  rfl
theorem ok_map (D : DDr K mg t1 t2 t3 c1 c2 c3) (B : Blt mg) : FnOk P w K mg base CX0 2 t3 c3 ["_law_box_here", "_law_states"] spMap := by
  refine D.map.F.ok scMap (fun vs H Q E h => ?_) (fun cdv A outer s H vs Q E hr h => ?_)
  · obtain ⟨b, n, rfl, _⟩ := h
    rfl
  obtain ⟨b, n, rfl, hb, n0, n1, k⟩ := h
  have G := ok_take (P := P) (w := w) (base := base) D.take B
  refine ⟨_, pss_cons (ps_set (i := 2) scMap.nd rfl (.inl rfl) (pe_dfn G D.take hr (by rfl) (pa_cons (pv 0) (pa_cons pe_int pa_nil))))
    (pss_cons (ps_if (pt_cmpR op_eq (pv 2) pe_int (nomark _)) (pss_one (ps_ret (pe_tuple B (by rfl) (pe_op op_rep (pe_lst (pa_cons (pe_dfn G D.take hr (by rfl) (pa_cons (pv 0) (pa_cons (pv 1) pa_nil))) pa_nil)) (pv 1))))) pss_nil)
    (pss_cons (ps_set (i := 3) scMap.nd rfl (.inl rfl) (pe_listRg rfl (by rfl) B.list (prg_1 (by rfl) B.range (pv 1))))
    (pss_cons (ps_if (pt_cmpR op_eq (pv 2) pe_int (nomark _))
      (pss_one (ps_asg (pe_dfn G D.take hr (by rfl) (pa_cons (pv 0) (pa_cons (pv 1) pa_nil))) (pg_sub (pv 3) (pe_dfn G D.take hr (by rfl) (pa_cons (pv 0) (pa_cons (pv 1) pa_nil))) set_list)))
      (pss_one (ps_if (pt_cmpR op_eq (pv 2) pe_int (nomark _))
        (pss_one (ps_set (i := 3) scMap.nd rfl (.inl rfl) (pe_op op_cat (pe_slice sl_list (pv 3) (po_some pe_int) po_none) (pe_slice sl_list (pv 3) po_none (po_some pe_int)))))
        (pss_one (ps_setLc (i := 3) (own := [("_law_state", 4)]) rfl scMap.nd rfl rfl (sw_true rfl rfl rfl (by decide +kernel)) (pi_list (pv 3)) (blkOk_by (by rfl)) (fun _ _ _ _ _ => pg_name (i := 4) scMap.nd rfl (Or.inl rfl)) (fun _ _ _ _ _ => pts_nil)
          (fun _ _ _ _ _ => pe_dfn G D.take hr (by rfl) (pa_cons (pv 0) (pa_cons (pv 1) pa_nil))))))))
    (pss_one (ps_ret (pe_tuple B (by rfl) (pv 3))))))), ?_⟩
  have n0' : (0 : Int) < (n : Int) := by omega
  have n1' : (n : Int) < 1073741824 := by omega
  -- the kind
  refine ⟨_, rfl, b, 5, rfl, hb, by decide, by decide, fun kd H1 _ _ bx1 => ?_⟩
  have hb1 := bx1.bo hb
  show tSeq _ _ _ [some (.ref b), some (.int n), some (.int kd), none, none] H1
  refine q_when (b := decide (kd = 0)) (et_test (ev_eqI (ev_var rfl) ev_c)) (fun _ H2 e2 => ?_) (fun _ H2 e2 => ?_)
  · have bx2 := bx_ex bx1 e2
    refine ⟨_, rfl, _, rfl, b, n, rfl, bx2.bo hb, n0', n1', fun r H3 r0 r1 bx3 => ⟨sz_of (by show 1 ≤ 100000; decide), fun l hl => ⟨_, rfl, l, n, [.int r], rfl, rfl, upd_same, by omega, by omega, ?_, fun l2 hl2 => ?_⟩⟩⟩
    · show 1 * (n : Int).toNat ≤ sizeLine
      exact sz_of (by omega)
    · have bx4 := bx_upd (o := .lst [.int r]) (bx2.trans bx3) hb (bx_free (bx2.trans bx3) hb hl)
      have bx5 := bx_upd (o := .lst (List.replicate (n : Int).toNat [V.int r]).flatten) bx4 hb (bx_free bx4 hb hl2)
      refine ⟨l2, _, rfl, .inl ⟨sq_of upd_same, fun p hp => k p _ (List.replicate n r) (bx_upd bx5 hb (bx_free bx5 hb hp)) (bx_free bx5 hb hp) ?_ ⟨List.length_replicate, fun x hx => ?_⟩⟩⟩
      · rw [upd_same, flat_rep, List.map_replicate]
        rfl
      · rw [List.eq_of_mem_replicate hx]; exact ⟨r0, r1⟩
  · have bx2 := bx_ex bx1 e2
    -- row = list(range(n))
    refine ⟨_, rfl, n, rfl, RgOk.of_le (by decide) (by omega) (by decide) (by omega), fun q hq => ?_⟩
    have e0 : rgV 0 (n : Int) = ((List.range n).map fun i : Nat => (0 : Int) + (i : Int)).map V.int := by have := rg_ints 0 n; rw [Int.zero_add] at this; exact this
    rw [e0]
    have hqf := bx_free bx2 hb hq
    have bx3 := bx_upd (o := .lst (((List.range n).map fun i : Nat => (0 : Int) + (i : Int)).map V.int)) bx2 hb hqf
    have r3 : rngI n ((List.range n).map fun i : Nat => (0 : Int) + (i : Int)) := ⟨by simp, fun x hx => by
      obtain ⟨i, hi, rfl⟩ := List.mem_map.mp hx
      have := List.mem_range.mp hi
      omega⟩
    generalize hrow : ((List.range n).map fun i : Nat => (0 : Int) + (i : Int)) = row at bx3 r3 ⊢
    generalize hH3 : upd H2 q (.lst (row.map V.int)) = H3 at bx3 ⊢
    have hq3 : H3 q = some (.lst (row.map V.int)) := by rw [← hH3]; exact upd_same
    show tSeq _ _ _ [some (.ref b), some (.int n), some (.int kd), some (.ref q), none] H3
    have hqb : q ≠ b := ne_box hb hqf
    have fin : ∀ (q' : Addr) (H' : Hp) (row' : List Int), Bx (oneB b) H H' → H' q' = some (.lst (row'.map V.int)) → rngI n row' → tRet (tCB (rTupS K) (tCons (tVar 3) tNil)) { nx := fun _ H' => Q .non H', rt := Q } [some (.ref b), some (.int n), some (.int kd), some (.ref q'), none] H' :=
      fun q' H' row' bx h r => ⟨_, rfl, q', _, rfl, .inl ⟨sq_of h, fun p hp => k p _ row' (bx_upd bx hb (bx_free bx hb hp)) (bx_free bx hb hp) upd_same r⟩⟩
    refine q_if (b := decide (kd = 1)) (et_test (ev_eqI (ev_var rfl) ev_c)) (fun _ H4 e4 => ?_) (fun _ H4 e4 => ?_)
    · have bx4 := bx_ex bx3 e4
      refine ⟨_, rfl, _, rfl, b, n, rfl, bx4.bo hb, n0', n1', fun r H5 r0 r1 bx5 => ⟨_, rfl, _, rfl, _, rfl, b, n, rfl, (bx4.trans bx5).bo hb, n0', n1', fun i H6 i0 i1 bx6 => ?_⟩⟩
      have h6 : H6 q = some (.lst (row.map V.int)) := bx6.keep q _ hqb (bx5.keep q _ hqb (e4 _ _ hq3))
      have hi : ixN (row.map V.int).length i = some i.toNat := by
        have e : i = ((i.toNat : Nat) : Int) := by omega
        conv => lhs; rw [e]
        exact ixN_nat (by rw [List.length_map, r3.1]; omega)
      refine ⟨q, _, i, i.toNat, rfl, rfl, h6, hi, fin q _ (row.set i.toNat r) (bx_upd ((bx4.trans bx5).trans bx6) hb hqf) ?_ ⟨by rw [List.length_set, r3.1], fun x hx => ?_⟩⟩
      · rw [upd_same, List.map_set]
      · rcases List.mem_or_eq_of_mem_set hx with z | z
        · exact r3.2 x z
        · rw [z]; exact ⟨r0, r1⟩
    · have bx4 := bx_ex bx3 e4
      have h4 := e4 _ _ hq3
      refine s_if (b := decide (kd = 2)) (et_test (ev_eqI (ev_var rfl) ev_c)) (fun _ H5 e5 => ?_) (fun _ H5 e5 => ?_)
      · have h5 := e5 _ _ h4
        have hz : row ≠ [] := fun z => by have := r3.1; rw [z] at this; simp at this; omega
        obtain ⟨y, ys, hy⟩ := List.exists_cons_of_ne_nil hz
        have c1 : cutV (row.map V.int) (some 1) none = ys.map V.int := by
          rw [hy]; unfold cutV; simp [HT.sIx]
          exact List.take_of_length_le (by rw [List.length_map]; exact Nat.le_refl _)
        have c2 : cutV (row.map V.int) none (some 1) = [V.int y] := by rw [hy]; unfold cutV; simp [HT.sIx]
        refine s_asgL (xs := ys.map V.int ++ [V.int y]) ((el_cat (el_sl (K := K) (a := q) (xs := row.map V.int) (lo := some 1) (hi := none) (ev_var rfl) (eo_some ev_c) eo_none (sq_of h5)) (el_sl (K := K) (a := q) (xs := row.map V.int) (lo := none) (hi := some 1) (ev_var rfl) eo_none (eo_some ev_c) (sq_of h5)) ?_).to (by rw [c1, c2])) fun p H6 hp e6 h6 => ?_
        · rw [c1, c2]
          have := r3.1; rw [hy] at this
          simp at this ⊢; omega
        · refine fin p H6 (ys ++ [y]) (bx_ex (bx_ex bx4 e5) e6) (by rw [h6]; simp) ⟨by have := r3.1; rw [hy] at this; simpa using this, fun x hx => r3.2 x ?_⟩
          rw [hy]
          simp at hx ⊢
          exact hx.symm
      · have bx5 := bx_ex bx4 e5
        refine ⟨_, rfl, q, rfl, ⟨_, sq_of (e5 _ _ h4)⟩, fun Dl hD => lc_gen (n := (row.map V.int).length) walk_list (oneB b) (fun c hc => by rw [show c = b from hc]; exact bx5.bo hb) (fun i _ y => ∃ r, y = V.int r ∧ 0 ≤ r ∧ r < (n : Int)) (fun _ _ _ _ _ h => h)
          (by rw [List.length_map, r3.1]; omega) hD (fun H' b' => sq_of (b'.keep q _ hqb (e5 _ _ h4))) (fun i x H6 H7 hi b6 _ y Qn kn => ?_) (fun H6 acc b6 ha hl hP => ?_)⟩
        · obtain ⟨rfl, _⟩ := y
          refine ⟨rfl, _, rfl, _, rfl, b, n, rfl, (bx5.trans b6).bo hb, n0', n1', fun r H8 r0 r1 bx8 => kn _ _ bx8 ⟨r, rfl, r0, r1⟩⟩
        · obtain ⟨rs, hrs⟩ : ∃ rs : List Int, acc = rs.map V.int ∧ ∀ x ∈ rs, 0 ≤ x ∧ x < (n : Int) := by
            clear ha hl
            have hall : ∀ y ∈ acc, ∃ r, y = V.int r ∧ 0 ≤ r ∧ r < (n : Int) := fun y hy => by
              obtain ⟨j, hj, e⟩ := List.mem_iff_getElem.mp hy
              exact hP j y (by rw [List.getElem?_eq_getElem hj, e])
            clear hP
            induction acc with
            | nil => exact ⟨[], rfl, fun x hx => by simp at hx⟩
            | cons y ys ih =>
              obtain ⟨rs, h1, h2⟩ := ih fun z hz => hall z (List.mem_cons_of_mem _ hz)
              obtain ⟨r, h3, h4⟩ := hall y List.mem_cons_self
              exact ⟨r :: rs, by rw [h1, h3]; rfl, fun x hx => by
                rcases List.mem_cons.mp hx with z | z
                · rw [z]; exact h4
                · exact h2 x z⟩
          obtain ⟨rfl, hr2⟩ := hrs
          refine fin Dl H6 rs (bx5.trans b6) ha ⟨by rw [← r3.1]; simpa using hl, hr2⟩
/-! ### _law_machine -/
theorem acc_all {acc : List V} {R : V → Prop} (hP : ∀ (i : Nat) (y : V), acc[i]? = some y → R y) : ∀ y ∈ acc, R y := fun y hy => by
  obtain ⟨j, hj, e⟩ := List.mem_iff_getElem.mp hy
  exact hP j y (by rw [List.getElem?_eq_getElem hj, e])
/-- values of a known make, as a list -/
theorem acc_map {α : Type} {acc : List V} {f : α → V} {R : α → Prop} (hP : ∀ y ∈ acc, ∃ r, y = f r ∧ R r) : ∃ rs : List α, acc = rs.map f ∧ ∀ x ∈ rs, R x := by
  induction acc with
  | nil => exact ⟨[], rfl, fun x hx => by simp at hx⟩
  | cons y ys ih =>
    obtain ⟨rs, h1, h2⟩ := ih fun z hz => hP z (List.mem_cons_of_mem _ hz)
    obtain ⟨r, h3, h4⟩ := hP y List.mem_cons_self
    exact ⟨r :: rs, by rw [h1, h3]; rfl, fun x hx => by
      rcases List.mem_cons.mp hx with z | z
      · rw [z]; exact h4
      · exact h2 x z⟩
/-- a row at a, not the box -/
def RowV (b : Addr) (n : Nat) (G : Hp) (y : V) : Prop := ∃ a ns, y = .ref a ∧ G a = some (.tup (ns.map V.int)) ∧ rngI n ns ∧ a ≠ b
theorem rows_da {b : Addr} {n : Nat} {H : Hp} : ∀ {acc : List V}, (∀ y ∈ acc, RowV b n H y) → ∃ nss : List (List Int), nss.length = acc.length ∧ (∀ ns ∈ nss, rngI n ns) ∧ DpAll K (hide b H) acc (nss.map rowP)
  | [], _ => ⟨[], rfl, fun ns h => by simp at h, .nil⟩
  | y :: ys, h => by
    obtain ⟨nss, h1, h2, h3⟩ := rows_da fun z hz => h z (List.mem_cons_of_mem _ hz)
    obtain ⟨a, ns, rfl, ha, hr, hne⟩ := h y List.mem_cons_self
    exact ⟨ns :: nss, by simp [h1], fun x hx => by
      rcases List.mem_cons.mp hx with z | z
      · rw [z]; exact hr
      · exact h2 x z, .cons (.tup (st_of (hide_at ha hne)) (da_ints ns)) h3⟩
/-- what is not the box stays -/
theorem hide_bx {b : Addr} {H H' : Hp} (h : Bx (oneB b) H H') : Ex (hide b H) (hide b H') := fun a o e => by
  by_cases z : a = b
  · unfold hide at e; rw [if_pos z] at e; cases e
  · rw [hide_ne z] at e ⊢; exact h.keep a o z e
abbrev sMk : Stmt := topS 34
def spMk (K : Kf) : Sp := fun vs H Q _ => ∃ (b : Addr) (m kn : Int), vs = [.ref b, .int m, .int kn] ∧ Box H b ∧ 1 ≤ m ∧ m ≤ 8 ∧ 1 ≤ kn ∧ kn ≤ 4 ∧ ∀ v H' kk, Bx (oneB b) H H' → MacV K (hide b H') v kk → Q v H'
abbrev nMk : List Str := ["_law_box_here", "_law_most", "_law_kinds", "_law_states", "_law_maps", "_law_shown", "_law_turn", "_law_state"]
theorem scMk : FnScope nMk ["_law_box_here", "_law_most", "_law_kinds"] (defScope sMk) := ⟨rfl, rfl, rfl, by decide +kernel, rfl, by decide +kernel, by decide +kernel⟩
theorem ok_mk {f : Addr} {fd : FuncData} (Dk : Dfn K mg "_law_machine" sMk ["_law_box_here", "_law_most", "_law_kinds"] f fd) (D : DDr K mg t1 t2 t3 c1 c2 c3) (B : Blt mg) : FnOk P w K mg base CX0 3 f fd ["_law_box_here", "_law_most", "_law_kinds"] (spMk K) := by
  refine Dk.F.ok scMk (fun vs H Q E h => ?_) (fun cdv A outer s H vs Q E hr h => ?_)
  · obtain ⟨b, m, kn, rfl, _⟩ := h
    rfl
  obtain ⟨b, m, kn, rfl, hb, m1, m8, k1, k4, k⟩ := h
  have G := ok_take (P := P) (w := w) (base := base) D.take B
  have GM := ok_map (P := P) (w := w) (base := base) D B
  have hr1 : Room 1 _ := hr.mono (by decide)
  refine ⟨_, pss_cons (ps_set (i := 3) scMk.nd rfl (.inr rfl) (pe_op op_add pe_int (pe_dfn G D.take hr1 (by rfl) (pa_cons (pv 0) (pa_cons (pv 1) pa_nil)))))
    (pss_cons (ps_setLc (i := 4) (own := [("_law_turn", 6)]) rfl scMk.nd rfl rfl (sw_true rfl rfl rfl (by decide +kernel)) (pi_range1 (by rfl) B.range (pa_cons (pe_op op_add pe_int (pe_dfn G D.take hr1 (by rfl) (pa_cons (pv 0) (pa_cons (pv 2) pa_nil)))) pa_nil)) (blkOk_by (by rfl))
        (fun _ _ _ _ _ => pg_name (i := 6) scMk.nd rfl (Or.inl rfl)) (fun _ _ _ _ _ => pts_nil) (fun _ _ _ _ _ => pe_dfn GM D.map hr (by rfl) (pa_cons (pv 0) (pa_cons (pv 3) pa_nil))))
    (pss_cons (ps_set (i := 5) scMk.nd rfl (.inr rfl) (pe_op op_add pe_int (pe_dfn G D.take hr1 (by rfl) (pa_cons (pv 0) (pa_cons pe_int pa_nil)))))
    (pss_one (ps_ret (pe_tup (pa_cons (pe_tuple B (by rfl) (pv 4)) (pa_cons (pe_tuple B (by rfl)
      (pe_lc (own := [("_law_state", 7)]) rfl scMk.nd (pi_range1 (by rfl) B.range (pa_cons (pv 3) pa_nil)) (blkOk_by (by rfl)) (fun _ _ _ _ _ => pg_name (i := 7) scMk.nd rfl (Or.inl rfl)) (fun _ _ _ _ _ => pts_nil)
        (fun _ _ _ _ _ => pe_dfn G D.take hr1 (by rfl) (pa_cons (pv 0) (pa_cons (pv 5) pa_nil))))) pa_nil))))))), ?_⟩
  -- states = 1 + take
  refine ⟨_, rfl, _, rfl, b, m, rfl, hb, by omega, by omega, fun r H1 r0 r1 bx1 => ⟨1, r, rfl, rfl, ?_⟩⟩
  obtain ⟨n, hn⟩ : ∃ n : Nat, 1 + r = (n : Int) := ⟨(1 + r).toNat, by omega⟩
  show tSeq _ _ _ [some (.ref b), some (.int m), some (.int kn), some (.int (1 + r)), none, none, none, none] H1
  rw [hn]
  have hn1 : 1 ≤ n := by omega
  have hn8 : n ≤ 8 := by omega
  have hb1 := bx1.bo hb
  show tSeq _ _ _ [some (.ref b), some (.int m), some (.int kn), some (.int n), none, none, none, none] H1
  -- maps
  refine ⟨_, rfl, _, rfl, b, kn, rfl, hb1, by omega, by omega, fun r2 H2 r20 r21 bx2 => ⟨1, r2, rfl, rfl, 1 + r2, rfl, by omega, by omega, fun D1 hD1 => ?_⟩⟩
  have bx12 := bx1.trans bx2
  have hb2 := bx12.bo hb
  refine lc_gen walk_range (oneB b) (fun c hc => by rw [show c = b from hc]; exact hb2) (fun i G y => RowV b n G y) (fun i y G G' hk ⟨a, ns, e1, e2, e3, e4⟩ => ⟨a, ns, e1, hk a _ e4 e2, e3, e4⟩) (by omega) hD1 (fun _ _ => trivial) (fun i x H3 H4 hi b3 hDn y Qn kn => ?_) (fun H3 acc b3 ha hl hP => ?_)
  · obtain ⟨rfl, rfl⟩ := y
    refine ⟨rfl, _, rfl, _, rfl, b, n, rfl, b3.bo hb2, hn1, hn8, fun p H5 ns b5 hp hp5 hns => kn _ _ b5 ⟨p, ns, rfl, hide_at hp5 (fun z => hDn (z ▸ hp)), hns, ne_box (b3.bo hb2) hp⟩⟩
  have bx3 := bx12.trans b3
  have hb3 := bx3.bo hb
  have hrows : ∀ y ∈ acc, RowV b n H3 y := acc_all fun i y e => by
    obtain ⟨a, ns, h1, h2, h3, h4⟩ := hP i y e
    exact ⟨a, ns, h1, hide_le _ _ h2, h3, h4⟩
  have hD1b : D1 ≠ b := ne_box hb2 hD1
  show tSeq _ _ _ [some (.ref b), some (.int m), some (.int kn), some (.int n), some (.ref D1), none, none, none] H3
  -- shown = 1 + take
  refine ⟨_, rfl, b, 3, rfl, hb3, by decide, by decide, fun r3 H4 r30 r31 bx4 => ⟨1, r3, rfl, rfl, ?_⟩⟩
  have bx34 := bx3.trans bx4
  refine ⟨_, rfl, D1, acc, rfl, .inl ⟨sq_of (bx4.keep D1 _ hD1b ha), fun q hq => ?_⟩⟩
  have hqf := bx_free bx34 hb hq
  have bx5 := bx_upd (o := .tup acc) bx34 hb hqf
  have hb5 := bx5.bo hb
  refine ⟨_, rfl, n, rfl, by omega, by omega, fun D2 hD2 => lc_gen walk_range (oneB b) (fun c hc => by rw [show c = b from hc]; exact hb5) (fun i _ y => ∃ x, y = V.int x ∧ 0 ≤ x ∧ x < 100) (fun _ _ _ _ _ h => h) (by omega) hD2 (fun _ _ => trivial) (fun i x H6 H7 hi b6 hDn y Qn kn => ?_) (fun H6 acc2 b6 ha2 hl2 hP2 => ?_)⟩
  · obtain ⟨rfl, rfl⟩ := y
    exact ⟨rfl, _, rfl, _, rfl, b, 1 + r3, rfl, b6.bo hb5, by omega, by omega, fun x H8 x0 x1 bx8 => kn _ _ bx8 ⟨x, rfl, x0, by omega⟩⟩
  obtain ⟨rs, rfl, hrs⟩ := acc_map (f := V.int) (R := fun x => 0 ≤ x ∧ x < 100) (acc_all hP2)
  have bx6 := bx5.trans b6
  refine ⟨D2, _, rfl, .inl ⟨sq_of ha2, fun c hc => ⟨sz_of (by show 2 ≤ 100000; decide), fun p hp => ?_⟩⟩⟩
  have hcf := bx_free bx6 hb hc
  have bx7 := bx_upd (o := .tup (rs.map V.int)) bx6 hb hcf
  have hpf := bx_free bx7 hb hp
  have bx8 := bx_upd (o := .tup [V.ref q, V.ref c]) bx7 hb hpf
  obtain ⟨nss, hs1, hs2, hs3⟩ := rows_da (K := K) hrows
  have hqb := ne_box hb hqf
  have hcb := ne_box hb hcf
  have hpb := ne_box hb hpf
  have qat : H6 q = some (.tup acc) := b6.keep q _ hqb upd_same
  have e36 : Ex (hide b H3) (hide b (upd (upd H6 c (.tup (rs.map V.int))) p (.tup [V.ref q, V.ref c]))) := by
    refine (hide_bx bx4).trans ((hide_bx (bx_upd (Bx.refl H4) (bx4.bo hb3) hq)).trans ((hide_bx b6).trans ?_))
    exact hide_bx ((bx_upd (Bx.refl H6) (b6.bo hb5) hc).trans (bx_upd (Bx.refl _) ((bx_upd (Bx.refl H6) (b6.bo hb5) hc).bo (b6.bo hb5)) hp))
  have qc : q ≠ c := ne_of_none qat hc
  have qp : q ≠ p := fun z => by
    have : (upd H6 c (.tup (rs.map V.int))) q = none := z ▸ hp
    rw [upd_ne qc, qat] at this; cases this
  have cp : c ≠ p := fun z => by
    have : (upd H6 c (.tup (rs.map V.int))) c = none := z ▸ hp
    rw [upd_same] at this; cases this
  refine k _ _ nss.length bx8 ⟨nss, rs, .tup (st_of (hide_at upd_same hpb)) (.cons (.tup (st_of (hide_at ?_ hqb)) (hs3.ex e36)) (.cons (.tup (st_of (hide_at ?_ hcb)) (da_ints rs)) .nil)), ⟨?_, ?_, ?_, ?_, ?_, hrs⟩, rfl⟩
  · rw [upd_ne qp, upd_ne qc]; exact qat
  · rw [upd_ne cp]; exact upd_same
  · rw [hs1, hl]; omega
  · rw [hs1, hl]; omega
  · rw [List.length_map] at hl2; rw [hl2]; omega
  · rw [List.length_map] at hl2; rw [hl2]; omega
  · intro ns hns
    have := hs2 ns hns
    rw [List.length_map] at hl2
    rw [hl2]
    exact this
/-! ### _law_lateness -/
abbrev sLtn : Stmt := topS 35
def spLtn : Sp := fun vs H Q _ => ∃ (b : Addr) (n : Nat) (m : Int), vs = [.ref b, .int n, .int m] ∧ Box H b ∧ n ≤ 4 ∧ 0 ≤ m ∧ m ≤ 12 ∧ ∀ p H' ls, Bx (oneB b) H H' → H p = none → H' p = some (.tup (ls.map latV)) → LatOk ls n → Q (.ref p) H'
abbrev nLtn : List Str := ["_law_box_here", "_law_kinds", "_law_most", "_law_kind"]
theorem scLtn : FnScope nLtn ["_law_box_here", "_law_kinds", "_law_most"] (defScope sLtn) := ⟨rfl, rfl, rfl, by decide +kernel, rfl, by decide +kernel, by decide +kernel⟩
theorem ok_ltn {f : Addr} {fd : FuncData} (Dk : Dfn K mg "_law_lateness" sLtn ["_law_box_here", "_law_kinds", "_law_most"] f fd) (D : DDr K mg t1 t2 t3 c1 c2 c3) (B : Blt mg) : FnOk P w K mg base CX0 3 f fd ["_law_box_here", "_law_kinds", "_law_most"] spLtn := by
  refine Dk.F.ok scLtn (fun vs H Q E h => ?_) (fun cdv A outer s H vs Q E hr h => ?_)
  · obtain ⟨b, n, m, rfl, _⟩ := h
    rfl
  obtain ⟨b, n, m, rfl, hb, n4, m0, m1, k⟩ := h
  have G := ok_take (P := P) (w := w) (base := base) D.take B
  have GP := ok_pick (P := P) (w := w) (base := base) D.pick D.take B
  have hr1 : Room 1 _ := hr.mono (by decide)
  refine ⟨_, pss_one (ps_ret (pe_tuple B (by rfl) (pe_lc (own := [("_law_kind", 3)]) rfl scLtn.nd (pi_range1 (by rfl) B.range (pa_cons (pv 1) pa_nil)) (blkOk_by (by rfl)) (fun _ _ _ _ _ => pg_name (i := 3) scLtn.nd rfl (Or.inl rfl)) (fun _ _ _ _ _ => pts_nil)
    (fun _ _ _ _ _ => pe_dfn GP D.pick hr (by rfl) (pa_cons (pv 0) (pa_cons (pe_lst (pa_cons pe_non (pa_cons pe_non (pa_cons pe_int (pa_cons (pe_dfn G D.take hr1 (by rfl) (pa_cons (pv 0) (pa_cons (pe_op op_add (pv 2) pe_int) pa_nil))) pa_nil))))) pa_nil)))))), ?_⟩
  refine ⟨_, rfl, n, rfl, by omega, by omega, fun D1 hD1 => lc_gen walk_range (oneB b) (fun c hc => by rw [show c = b from hc]; exact hb) (fun i _ y => ∃ t, y = latV t ∧ ∀ x, t = some x → 0 ≤ x ∧ x < 13) (fun _ _ _ _ _ h => h) (by omega) hD1 (fun _ _ => trivial) (fun i x H3 H4 hi b3 hDn y Qn kn => ?_) (fun H3 acc b3 ha hl hP => ?_)⟩
  · obtain ⟨rfl, rfl⟩ := y
    have hb3 := b3.bo hb
    refine ⟨rfl, _, rfl, _, rfl, _, rfl, m, 1, rfl, rfl, b, m + 1, rfl, hb3, by omega, by omega, fun r H5 r0 r1 bx5 => ⟨sz_of (by show 4 ≤ 100000; decide), fun p hp => ?_⟩⟩
    have hpf := bx_free bx5 hb3 hp
    have bx6 := bx_upd (o := .lst [V.non, V.non, V.int 0, V.int r]) bx5 hb3 hpf
    refine ⟨b, p, _, rfl, bx6.bo hb3, ne_box hb3 hpf, upd_same, by show 0 < 4; decide, by show 4 ≤ 1000; decide, fun x H7 hx bx7 => kn _ _ (bx6.trans bx7) ?_⟩
    simp at hx
    rcases hx with rfl | rfl | rfl
    · exact ⟨none, rfl, fun x h => by cases h⟩
    · exact ⟨some 0, rfl, fun x h => by cases h; decide⟩
    · exact ⟨some r, rfl, fun x h => by cases h; omega⟩
  · obtain ⟨ls, rfl, hls⟩ := acc_map (f := latV) (R := fun t => ∀ x, t = some x → 0 ≤ x ∧ x < 13) (acc_all hP)
    refine ⟨D1, _, rfl, .inl ⟨sq_of ha, fun p hp => k p _ ls (bx_upd b3 hb (bx_free b3 hb hp)) (bx_free b3 hb hp) upd_same ⟨by simpa using hl, fun t ht => hls _ ht t rfl⟩⟩⟩
end
end Fw
/-! plain laws: stories, draws, data -/
namespace Fw
open PySem PySem.Spec PyProof.Rows L2 Evl
/-- a news that may follow those heard -/
def okAt (ls : Lat) (heard : List Int) (p : Int × Int) : Prop :=
  (0 ≤ p.1 ∧ p.1 < 1000000) ∧ (0 ≤ p.2 ∧ p.2 < (ls.length : Int)) ∧ p.1 ∉ heard ∧ openAt (lateOf heard p.1) ((ls[p.2.toNat]?).getD none) = true
def okFrom (ls : Lat) : List Int → List (Int × Int) → Prop
  | _, [] => True
  | heard, p :: r => okAt ls heard p ∧ okFrom ls (heard ++ [p.1]) r
theorem okFrom_snoc {ls : Lat} : ∀ {nw : List (Int × Int)} {heard : List Int} {p : Int × Int}, okFrom ls heard nw → okAt ls (heard ++ nw.map (·.1)) p → okFrom ls heard (nw ++ [p])
  | [], heard, p, _, h => ⟨by simpa using h, trivial⟩
  | q :: r, heard, p, h1, h2 => ⟨h1.1, okFrom_snoc h1.2 (by simpa using h2)⟩
/-- a news as data, in a list or in a tuple -/
def IsNews (p : Int × Int) (d : PyData) : Prop := seqD d = some [.int p.1, .int p.2]
theorem newsBad_ok {ls : Lat} {heard : List Int} {p : Int × Int} {d : PyData} (h : okAt ls heard p) (hd : IsNews p d) : newsBad ls heard d = false ∧ momentOf d = p.1 := by
  obtain ⟨⟨a1, a2⟩, ⟨b1, b2⟩, c, o⟩ := h
  have hn : newsD ls.length d = some (p.1, p.2) := by
    unfold newsD
    rw [hd]
    simp [a1, a2, b1, b2]
  refine ⟨?_, news_moment hn⟩
  unfold newsBad
  rw [hn]
  show (heard.contains p.1 || !(openAt _ _)) = false
  rw [o]
  simpa using c
theorem faultFrom_ok {ls : Lat} : ∀ {nw : List (Int × Int)} {ds : List PyData} {heard : List Int} {i : Nat}, okFrom ls heard nw → nw.length = ds.length → (∀ (j : Nat) p d, nw[j]? = some p → ds[j]? = some d → IsNews p d) → faultFrom ls heard i ds = none
  | [], [], _, _, _, _, _ => rfl
  | p :: nw, d :: ds, heard, i, h, hl, hd => by
    obtain ⟨h1, h2⟩ := newsBad_ok h.1 (hd 0 p d rfl rfl)
    unfold faultFrom
    rw [h1, if_neg Bool.false_ne_true, h2]
    exact faultFrom_ok h.2 (by simpa using hl) fun j q e e1 e2 => hd (j + 1) q e (by simpa using e1) (by simpa using e2)
theorem toldFault_ok {ls : Lat} {nw : List (Int × Int)} {d : PyData} {ds : List PyData} (h : okFrom ls [] nw) (hs : seqD d = some ds) (hl : nw.length = ds.length) (h400 : nw.length ≤ 400) (hd : ∀ (j : Nat) p d, nw[j]? = some p → ds[j]? = some d → IsNews p d) : toldFault ls d = none := by
  unfold toldFault
  rw [hs]
  show (if 400 < ds.length then some (-1 : Int) else faultFrom ls [] 0 ds) = none
  rw [if_neg (by omega)]
  exact faultFrom_ok h hl hd
/-! ### a moment drawn between two heard ones -/
theorem lateOf_perm {hs ms : List Int} (p : hs.Perm ms) (m : Int) : lateOf hs m = lateOf ms m := by
  unfold lateOf
  rw [(p.filter _).length_eq]
theorem draw_mid {hs ms : List Int} (perm : hs.Perm ms) (srt : hs.Pairwise (· ≤ ·)) {k : Nat} (hk : k ≤ hs.length) {m : Int} (low : ∀ (i : Nat) x, i < k → hs[i]? = some x → i + 1 = k → x < m) (high : ∀ x, hs[k]? = some x → m < x) :
    m ∉ ms ∧ lateOf ms m = ((hs.length - k : Nat) : Int) := by
  have mono : ∀ (i j : Nat) x y, i ≤ j → hs[i]? = some x → hs[j]? = some y → x ≤ y := fun i j x y hij hx hy => by
    obtain ⟨hi, ei⟩ := List.getElem?_eq_some_iff.mp hx
    obtain ⟨hj, ej⟩ := List.getElem?_eq_some_iff.mp hy
    rcases Nat.lt_or_eq_of_le hij with h | h
    · have := List.pairwise_iff_getElem.mp srt i j hi hj h
      rw [ei, ej] at this; exact this
    · subst h; rw [ei] at ej; rw [ej]; exact Int.le_refl _
  have below : ∀ x ∈ hs.take k, x < m := fun x hx => by
    obtain ⟨i, hi, e⟩ := List.mem_iff_getElem.mp hx
    have hil : i < k := by rw [List.length_take] at hi; omega
    have hx' : hs[i]? = some x := by rw [← e, List.getElem_take, List.getElem?_eq_getElem]
    have hlast : k - 1 < hs.length := by omega
    have l1 := low (k - 1) hs[k - 1] (by omega) (List.getElem?_eq_getElem hlast) (by omega)
    exact Int.lt_of_le_of_lt (mono i (k - 1) x _ (by omega) hx' (List.getElem?_eq_getElem hlast)) l1
  have above : ∀ x ∈ hs.drop k, m < x := fun x hx => by
    obtain ⟨i, hi, e⟩ := List.mem_iff_getElem.mp hx
    rw [List.length_drop] at hi
    have hx' : hs[k + i]? = some x := by rw [← e, List.getElem_drop, List.getElem?_eq_getElem]
    have hk' : k < hs.length := by omega
    have l1 := high hs[k] (List.getElem?_eq_getElem hk')
    exact Int.lt_of_lt_of_le l1 (mono k (k + i) _ x (by omega) (List.getElem?_eq_getElem hk') hx')
  refine ⟨fun hm => ?_, ?_⟩
  · have hm' : m ∈ hs := perm.mem_iff.mpr hm
    rw [← List.take_append_drop k hs] at hm'
    rcases List.mem_append.mp hm' with h | h
    · exact Int.lt_irrefl _ (below m h)
    · exact Int.lt_irrefl _ (above m h)
  · rw [← lateOf_perm perm]
    unfold lateOf
    conv => lhs; rw [← List.take_append_drop k hs]
    rw [List.filter_append, List.length_append]
    have e1 : (hs.take k).filter (fun x => decide (m < x)) = [] := by
      rw [List.filter_eq_nil_iff]
      intro x hx
      have := below x hx
      simp; omega
    have e2 : (hs.drop k).filter (fun x => decide (m < x)) = hs.drop k := by
      rw [List.filter_eq_self]
      intro x hx
      have := above x hx
      simpa using this
    rw [e1, e2, List.length_drop]
    simp
/-- openness at fewer news behind -/
theorem openAt_le {a b : Int} {t : Option Int} (h : a ≤ b) (o : openAt b t = true) : openAt a t = true := by
  cases t with
  | none => rfl
  | some t => simp [openAt] at o ⊢; omega
/-! ### == of a list of ints with the empty one; what may be compared -/
theorem eqv_nil (ns : List Int) : PyData.eqv (.list (ns.map PyData.int)) (.list []) = ns.isEmpty := by
  cases ns with
  | nil => simp [PyData.eqv, PyData.eqvAll]
  | cons n ns => simp [PyData.eqv, PyData.eqvAll]
theorem canLay_ints : ∀ ns : List Int, PyData.canLayAll0 (ns.map PyData.int) = true
  | [] => by simp [PyData.canLayAll0]
  | n :: ns => by simp [PyData.canLayAll0, PyData.canLay0, canLay_ints ns]
theorem depth_ints : ∀ ns : List Int, PyData.depthAll (ns.map PyData.int) = 0
  | [] => by simp [PyData.depthAll]
  | n :: ns => by simp [PyData.depthAll, PyData.depth, depth_ints ns]
theorem shaped_ints (ns : List Int) : SeqAt.shaped (.list (ns.map PyData.int)) = true := by
  unfold SeqAt.shaped
  simp [PyData.canLay0, canLay_ints, PyData.depth, depth_ints]
theorem shaped_nil : SeqAt.shaped (.list []) = true := shaped_ints []
end Fw
/-! _law_told_story -/
namespace Fw
open PySem PySem.Spec PyProof.Rows L2 Evl
section
variable {K : Kf} {σ : L2.St} {H : Hp} {te tl ta tb : TE} {t : TT}
/-- a comprehension over a list of pairs -/
theorem el_lcP {xs : List V} {j l : Nat} {vs : List Nat} (us ws : Nat → V) (f : Nat → Bool) (v : Nat → V) (h : EvS K tl σ H xs) (hz : xs.length ≤ 40000) (hw : ∀ x y, wipe (((wipe σ vs).set j (some x)).set l (some y)) vs = wipe σ vs)
    (hp : ∀ (i : Nat) (x : V), xs[i]? = some x → ∃ a, x = .ref a ∧ SqT K H a [us i, ws i])
    (ht : ∀ (i : Nat) H1, Ex H H1 → i < xs.length → EvT t (((wipe σ vs).set j (some (us i))).set l (some (ws i))) H1 (f i)) (he : ∀ (i : Nat) H1, Ex H H1 → i < xs.length → f i = true → Ev te (((wipe σ vs).set j (some (us i))).set l (some (ws i))) H1 (v i)) :
    EvL (tLc (iSeq K tl) (gTup K 2 (gCons (gName j) (gCons (gName l) gNil))) t te vs) σ H (given xs.length f v) := fun H0 e Q q => h H0 e _ fun a H1 e1 hx => by
  have w0 : ∀ {J : It} {G : Hp → Prop}, Walk J xs.length G (YAt xs) → (∀ H', Ex H1 H' → G H') → ∀ Dl, H1 Dl = none → _ := fun {J G} wk hG Dl hD =>
    lc_it (g := gTup K 2 (gCons (gName j) (gCons (gName l) gNil))) (tt := t) (te := te) (vs := vs) (σ := σ) (H1 := H1) (D := Dl) (Qd := fun H => Q (.ref Dl) H) wk (Cw H1 f v Dl) ⟨hD, Ex.new hD, upd_same⟩ (fun i H' _ p => hG H' p.2.1)
      (fun i x H' H'' hi p y => by
        obtain ⟨rfl, hx'⟩ := y
        obtain ⟨r, rfl, hr⟩ := hp i x hx'
        exact ⟨r, _, rfl, ex_t ((e.trans e1).trans p.2.1) hr, rfl, _, _, rfl, _, _, rfl, rfl, hw _ _, cw_turn p (by omega) (ht i H1 (e.trans e1) hi) (fun hf => he i H1 (e.trans e1) hi hf)⟩)
      (fun H' p => q Dl H' (fresh_back e1 p.1) (e1.trans p.2.1) p.2.2)
  refine ⟨a, xs, rfl, hx.imp (fun hl => ⟨hl, ?_⟩) fun hl => ⟨hl, ?_⟩⟩
  · exact w0 walk_list fun H' e' => ex_l e' hl
  · exact w0 walk_tup fun H' e' => ex_t e' hl
/-- [..] + v, v + [..] -/
theorem el_catV {a : Addr} {xs ys : List V} (ha : EvL ta σ H xs) (hb : Ev tb σ H (.ref a)) (hs : H a = some (.lst ys)) (hz : xs.length + ys.length ≤ 100000) : EvL (tOp rCat ta tb) σ H (xs ++ ys) := fun H1 e Q q =>
  ha H1 e _ fun p H2 hp e2 h2 => hb H2 (e.trans e2) _ fun H3 e3 => ⟨p, a, xs, ys, rfl, rfl, e3 _ _ h2, ((e.trans e2).trans e3) _ _ hs, sz_of hz, fun l hl => q l _ (fresh_back (e2.trans e3) hl) ((e2.trans e3).trans (Ex.new hl)) upd_same⟩
theorem el_vcat {a : Addr} {xs ys : List V} (ha : Ev ta σ H (.ref a)) (hs : H a = some (.lst xs)) (hb : EvL tb σ H ys) (hz : xs.length + ys.length ≤ 100000) : EvL (tOp rCat ta tb) σ H (xs ++ ys) := fun H1 e Q q =>
  ha H1 e _ fun H2 e2 => hb H2 (e.trans e2) _ fun r H3 hr e3 h3 => ⟨a, r, xs, ys, rfl, rfl, ((e.trans e2).trans e3) _ _ hs, h3, sz_of hz, fun l hl => q l _ (fresh_back (e2.trans e3) hl) ((e2.trans e3).trans (Ex.new hl)) upd_same⟩
theorem q_sorted {tz : TS} {D : Ends} {i : Nat} {ms : List Int} (h : EvL te σ H (ms.map V.int)) (k : ∀ (hs : List Int) (q : Addr) (H0 : Hp), Ex H H0 → hs.Perm ms → hs.Pairwise (· ≤ ·) → H0 q = none → tz D (σ.set i (some (.ref q))) (upd H0 q (.lst (hs.map V.int)))) :
    tSeq (tAsg (tCB (rSortedI K) (tCons te tNil)) (gName i)) tz D σ H := h H (Ex.refl _) _ fun p0 H5 hp0 e5 h5 => ⟨p0, ms, rfl, sq_of h5, fun hs q perm srt hq => k hs q H5 e5 perm srt hq⟩
/-- max(..) of a new list of ints -/
theorem ev_maxL {ns : List Int} (h : EvL te σ H (ns.map V.int)) (h0 : 0 < ns.length) : Ev (tCB (rMax K) (tCons te tNil)) σ H (.int (ns.tail.foldl max (ns.head?.getD 0))) := fun H1 e Q q =>
  h H1 e _ fun p H2 _ e2 hp => ⟨p, ns, rfl, sq_of hp, h0, fun m hm hmax => by
    cases ns with
    | nil => simp at h0
    | cons n ns =>
      obtain ⟨a, b⟩ := foldl_max ns n
      have e : m = ns.foldl max n := Int.le_antisymm (a m hm) (hmax _ b)
      rw [e]
      exact q H2 e2⟩
end
theorem g_go {i : Nat} {v : V} {σ σ' : L2.St} {H : Hp} {t : L2.St → Hp → Prop} (e : σ.set i (some v) = σ') (h : t σ' H) : gName i v σ H t := by subst e; exact h
theorem hide_bx2 {b c : Addr} {H H' : Hp} (h : Bx (oneB b) H H') : Ex (hide c (hide b H)) (hide c (hide b H')) := fun a o e => by
  by_cases z : a = c
  · unfold hide at e; rw [if_pos z] at e; cases e
  · rw [hide_ne z] at e ⊢; exact hide_bx h a o e
def newsP (p : Int × Int) : PyData := .tuple [.int p.1, .int p.2]
/-- a told story: the tuple at p -/
structure TaleV (K : Kf) (H : Hp) (v : V) (ls : Lat) (nw : List (Int × Int)) : Prop where
  dp : Dp K H v (.tuple (nw.map newsP))
  ok : okFrom ls [] nw
  len : nw.length ≤ 9
section
variable {P : Program} {w : World} {K : Kf} {mg : Str → Option Value} {base : Heap} {t1 t2 t3 : Addr} {c1 c2 c3 : FuncData}
abbrev sTale : Stmt := topS 36
def spTale (K : Kf) : Sp := fun vs H Q _ => ∃ (b l : Addr) (n k : Nat) (ls : Lat), vs = [.ref b, .ref l, .int n, .int 3] ∧ Box H b ∧ l ≠ b ∧ H l = some (.tup (ls.map latV)) ∧ LatOk ls k ∧ 1 ≤ k ∧ k ≤ 4 ∧ n ≤ 9 ∧
  ∀ v H' nw, Bx (oneB b) H H' → TaleV K (hide b H') v ls nw → Q v H'
abbrev nTale : List Str := ["_law_box_here", "_law_lateness_here", "_law_many", "_law_gap", "_law_story", "_law_turn", "_law_kind", "_law_heard", "_law_most", "_law_late", "_law_low", "_law_high", "_law_free", "_law_moment", "_law_other"]
theorem scTale : FnScope nTale ["_law_box_here", "_law_lateness_here", "_law_many", "_law_gap"] (defScope sTale) := ⟨rfl, rfl, rfl, by decide +kernel, rfl, by decide +kernel, by decide +kernel⟩
theorem ok_tale {f : Addr} {fd : FuncData} (Dk : Dfn K mg "_law_told_story" sTale ["_law_box_here", "_law_lateness_here", "_law_many", "_law_gap"] f fd) (D : DDr K mg t1 t2 t3 c1 c2 c3) (B : Blt mg) : FnOk P w K mg base CX0 3 f fd ["_law_box_here", "_law_lateness_here", "_law_many", "_law_gap"] (spTale K) := by
  refine Dk.F.ok scTale (fun vs H Q E h => ?_) (fun cdv A outer s H vs Q E hr h => ?_)
  · obtain ⟨b, l, n, k, ls, rfl, _⟩ := h
    rfl
  obtain ⟨b, l, n, k, ls, rfl, hb, lb, hl, okl, k1, k4, n9, kQ⟩ := h
  have G := ok_take (P := P) (w := w) (base := base) D.take B
  have GP := ok_pick (P := P) (w := w) (base := base) D.pick D.take B
  have hr1 : Room 1 _ := hr.mono (by decide)
  have hu : _ := hr.units
  refine ⟨_, pss_cons (ps_set (i := 4) scTale.nd rfl (.inl rfl) (pe_lst pa_nil))
    (pss_cons (ps_for PassesOwn.never rfl (pi_range1 (by rfl) B.range (pa_cons (pv 2) pa_nil)) (pg_name (i := 5) scTale.nd rfl (.inl rfl))
      (pss_cons (ps_set (i := 6) scTale.nd rfl (.inl rfl) (pe_dfn G D.take hr1 (by rfl) (pa_cons (pv 0) (pa_cons (pe_len B (by rfl) (pv 1)) pa_nil))))
      (pss_cons (ps_set (i := 7) scTale.nd rfl (.inl rfl) (pe_callB cr_sortedI (by rfl) B.sorted bt_sorted (pa_cons (pe_lc (own := [("_law_moment", 13), ("_law_other", 14)]) rfl scTale.nd (pi_seq (pv 4)) (blkOk_by (by rfl))
          (fun _ _ _ _ _ => pg_pairB K rfl rfl (pg_name (i := 13) scTale.nd rfl (.inl rfl)) (pg_name (i := 14) scTale.nd rfl (.inl rfl))) (fun _ _ _ _ _ => pts_nil) (fun _ _ _ _ _ => pv 13)) pa_nil)))
      (pss_cons (ps_set (i := 8) scTale.nd rfl (.inl rfl) (pe_ifExp (pt_cmpR op_isN (pe_ix ix_seq (pv 1) (pv 6) (fun _ _ => rfl)) pe_non (nomark _)) (pe_len B (by rfl) (pv 7)) (pe_callB (call_min2 rfl) (by rfl) B.min bt_min (pa_cons (pe_ix ix_seq (pv 1) (pv 6) (fun _ _ => rfl)) (pa_cons (pe_len B (by rfl) (pv 7)) pa_nil)))))
      (pss_cons (ps_set (i := 9) scTale.nd rfl (.inl rfl) (pe_dfn GP D.pick (hr.mono (by decide)) (by rfl) (pa_cons (pv 0) (pa_cons (pe_lst (pa_cons pe_int (pa_cons (pe_dfn G D.take hr1 (by rfl) (pa_cons (pv 0) (pa_cons (pe_op op_add (pv 8) pe_int) pa_nil))) (pa_cons (pe_dfn G D.take hr1 (by rfl) (pa_cons (pv 0) (pa_cons (pe_op op_add (pv 8) pe_int) pa_nil))) pa_nil)))) pa_nil))))
      (pss_cons (ps_set (i := 10) scTale.nd rfl (.inl rfl) (pe_ix ix_seq (pe_op op_cat (pe_lst (pa_cons (pe_un un_neg pe_int) pa_nil)) (pv 7)) (pe_op op_sub (pe_len B (by rfl) (pv 7)) (pv 9)) (fun _ _ => rfl)))
      (pss_cons (ps_set (i := 11) scTale.nd rfl (.inl rfl) (pe_ifExp (pt_cmpR op_gt (pv 9) pe_int (nomark _)) (pe_ix ix_seq (pv 7) (pe_op op_sub (pe_len B (by rfl) (pv 7)) (pv 9)) (fun _ _ => rfl)) (pe_op op_add (pe_op op_add (pv 10) pe_int) (pv 3))))
      (pss_cons (ps_set (i := 12) scTale.nd rfl (.inl rfl) (pe_listRg rfl (by rfl) B.list (prg_2 (by rfl) B.range (pe_op op_add (pv 10) pe_int) (pv 11))))
      (pss_one (ps_expr (pe_bm PySem.F.plainAttrs_list PySem.F.slot_list_append PySem.F.type_list_append mt_append (pv 4) (pa_cons
        (pe_ifExp (pt_cmpR (op_neD hu) (pv 12) (pe_lst pa_nil) (nomark _)) (pe_tup (pa_cons (pe_dfn GP D.pick (hr.mono (by decide)) (by rfl) (pa_cons (pv 0) (pa_cons (pv 12) pa_nil))) (pa_cons (pv 6) pa_nil)))
          (pe_tup (pa_cons (pe_op op_add (pe_op op_add (pe_callB (cr_max rfl) (by rfl) B.max bt_max (pa_cons (pe_op op_cat (pv 7) (pe_lst (pa_cons (pe_un un_neg pe_int) pa_nil))) pa_nil)) (pv 3)) (pe_dfn G D.take hr1 (by rfl) (pa_cons (pv 0) (pa_cons (pv 3) pa_nil)))) (pa_cons (pv 6) pa_nil)))) pa_nil))))))))))))
    (pss_one (ps_ret (pe_tuple B (by rfl) (pv 4))))), ?_⟩
  refine ⟨sz_of (by show 0 ≤ 100000; decide), fun st hst => ⟨_, rfl, (n : Int), rfl, by omega, by omega, ?_⟩⟩
  have stb : st ≠ b := ne_box hb hst
  have bx0 : Bx (oneB b) H (upd H st (.lst [])) := bx_upd (Bx.refl H) hb hst
  refine for_it walk_range (fun i σ H' => (∃ y5 y6 y7 y8 y9 y10 y11 y12, σ = [some (.ref b), some (.ref l), some (.int n), some (.int 3), some (.ref st), y5, y6, y7, y8, y9, y10, y11, y12, none, none]) ∧ Bx (oneB b) H H' ∧
      ∃ refs nw, H' st = some (.lst refs) ∧ nw.length = i ∧ DpAll K (hide st (hide b H')) refs (nw.map newsP) ∧ okFrom ls [] nw ∧ ∀ p ∈ nw, p.1 ≤ 6 * (i : Int))
    ⟨⟨_, _, _, _, _, _, _, _, rfl⟩, bx0, [], [], upd_same, rfl, .nil, trivial, fun p hp => by simp at hp⟩ (fun _ _ _ _ _ => trivial) (fun i x σ H3' H3 hi hp y => ?_) (fun σ H3 hp => ?_)
  · obtain ⟨rfl, rfl⟩ := y
    obtain ⟨⟨y5, y6, y7, y8, y9, y10, y11, y12, rfl⟩, bx3, refs, nw, hst3, hnl, hda, hok, hbd⟩ := hp
    have hi9 : i < 9 := by omega
    have hb3 := bx3.bo hb
    have hl3 : H3 l = some (.tup (ls.map latV)) := bx3.keep l _ lb hl
    have hrl : refs.length = nw.length := by rw [da_len hda, List.length_map]
    -- kind
    refine ⟨_, rfl, _, rfl, l, _, rfl, .inr (st_of hl3), b, _, rfl, hb3, by rw [List.length_map, okl.len]; omega, by rw [List.length_map, okl.len]; omega, fun kd H4 kd0 kd1 bx4 => ?_⟩
    rw [List.length_map] at kd1
    refine g_go (σ' := [some (.ref b), some (.ref l), some (.int n), some (.int 3), some (.ref st), some (.int (0 + (i : Int))), some (.int kd), y7, y8, y9, y10, y11, y12, none, none]) rfl ?_
    dsimp only
    have hst4 : H4 st = some (.lst refs) := bx4.keep st _ stb hst3
    have hl4 : H4 l = some (.tup (ls.map latV)) := bx4.keep l _ lb hl3
    have hda4 := hda.ex (hide_bx2 (c := st) bx4)
    have getn : ∀ (j : Nat) p, nw[j]? = some p → nw.getD j (0, 0) = p := fun j p h => getD_of h
    -- heard
    have lc : EvL (tLc (iSeq K (tVar 4)) (gTup K 2 (gCons (gName 13) (gCons (gName 14) gNil))) tYes (tVar 13) [13, 14]) [some (.ref b), some (.ref l), some (.int n), some (.int 3), some (.ref st), some (.int (0 + (i : Int))), some (.int kd), y7, y8, y9, y10, y11, y12, none, none] H4 ((nw.map (·.1)).map V.int) := by
      have g := el_lcP (K := K) (tl := tVar 4) (σ := [some (.ref b), some (.ref l), some (.int n), some (.int 3), some (.ref st), some (.int (0 + (i : Int))), some (.int kd), y7, y8, y9, y10, y11, y12, none, none]) (H := H4) (t := tYes) (te := tVar 13) (xs := refs) (j := 13) (l := 14) (vs := [13, 14])
        (fun j => .int (nw.getD j (0, 0)).1) (fun j => .int (nw.getD j (0, 0)).2) (fun j => (fun _ : Int × Int => true) (nw.getD j (0, 0))) (fun j => (fun p : Int × Int => V.int p.1) (nw.getD j (0, 0))) (es_of (ev_var rfl) (.inl (sq_of hst4))) (by rw [hrl, hnl]; omega) (fun x y => rfl) (fun j x hx => by
          obtain ⟨d, hd1, hd2⟩ := da_get hda4 hx
          rw [List.getElem?_map] at hd1
          obtain ⟨p, hp, rfl⟩ := Option.map_eq_some_iff.mp hd1
          rw [getn j p hp]
          have hd3 : Dp K H4 x (newsP p) := (hd2.ex hide_le).ex hide_le
          cases hd3 with
          | tup hs ha =>
            cases ha with
            | cons h1 h2 =>
              cases h2 with
              | cons h2 h3 =>
                cases h1; cases h2; cases h3
                exact ⟨_, rfl, hs⟩) (fun j H1 _ _ => ey) (fun j H1 _ _ _ => ev_var rfl)
      exact g.to (by rw [hrl]; exact (given_list nw (fun _ : Int × Int => true) (fun p : Int × Int => V.int p.1) (0, 0)).trans (by rw [List.filter_eq_self.mpr (fun _ _ => rfl), List.map_map]; rfl))
    refine q_sorted lc fun hs q H5 e5 perm srt hq => ?_
    have bx5 := bx_ex bx4 e5
    have hq3 : H3 q = none := bx_free bx5 hb3 hq
    have bx6 := bx_upd (o := .lst (hs.map V.int)) bx5 hb3 hq3
    have hqb := ne_box hb3 hq3
    generalize hH6 : upd H5 q (.lst (hs.map V.int)) = H6 at bx6
    have hq6 : H6 q = some (.lst (hs.map V.int)) := by rw [← hH6]; exact upd_same
    clear hH6
    show tSeq _ _ _ [some (.ref b), some (.ref l), some (.int n), some (.int 3), some (.ref st), some (.int (0 + (i : Int))), some (.int kd), some (.ref q), y8, y9, y10, y11, y12, none, none] H6
    have hl6 : H6 l = some (.tup (ls.map latV)) := bx6.keep l _ lb hl3
    have hsl : hs.length = i := by rw [perm.length_eq, List.length_map, hnl]
    have lenh : ∀ {σ : L2.St} {H : Hp}, Bx (oneB b) H6 H → σ[7]? = some (some (.ref q)) → Ev (tCB (rLenS K) (tCons (tVar 7) tNil)) σ H (.int (hs.length : Int)) := fun {σ H} e h7 => by
      have z := ev_lenS (K := K) (σ := σ) (H := H) (te := tVar 7) (ev_var h7) (.inl (sq_of (e.keep q _ hqb hq6)))
      rw [List.length_map] at z
      exact z
    -- most
    obtain ⟨t, ht⟩ : ∃ t, ls[kd.toNat]? = some t := ⟨_, List.getElem?_eq_getElem (by omega)⟩
    have kdat : Ev (tOp (rIx K) (tVar 1) (tVar 6)) [some (.ref b), some (.ref l), some (.int n), some (.int 3), some (.ref st), some (.int (0 + (i : Int))), some (.int kd), some (.ref q), y8, y9, y10, y11, y12, none, none] H6 (latV t) := ev_ixT (i := kd) (ev_var rfl) (ev_var rfl) (st_of hl6) (by
      have e : kd = ((kd.toNat : Nat) : Int) := by omega
      rw [e]
      exact atI_nat (by rw [List.getElem?_map, ht]; rfl))
    have t0 : ∀ x, t = some x → 0 ≤ x := fun x e => (okl.rng x (e ▸ List.mem_of_getElem? ht)).1
    obtain ⟨most, hmost, m0, m1, mo⟩ : ∃ most : Int, Ev (tIf (tTest (tOp (fun x y H Q => y = .non ∧ Q (.bl (decide (x = .non))) H) (tOp (rIx K) (tVar 1) (tVar 6)) (tC .non))) (tCB (rLenS K) (tCons (tVar 7) tNil)) (tCB (fun xs H Q => ∃ i j, xs = [.int i, .int j] ∧ Q (.int (if j < i then j else i)) H) (tCons (tOp (rIx K) (tVar 1) (tVar 6)) (tCons (tCB (rLenS K) (tCons (tVar 7) tNil)) tNil))))
        [some (.ref b), some (.ref l), some (.int n), some (.int 3), some (.ref st), some (.int (0 + (i : Int))), some (.int kd), some (.ref q), y8, y9, y10, y11, y12, none, none] H6 (.int most) ∧ 0 ≤ most ∧ most ≤ (hs.length : Int) ∧ openAt most t = true := by
      cases t with
      | none => exact ⟨hs.length, ev_if (b := true) (et_test (ev_op kdat ev_c fun H7 e7 Q7 q7 => ⟨rfl, by simpa [latV] using q7 H7 (Ex.refl _)⟩)) (fun _ => lenh (Bx.refl _) rfl) (fun z => nomatch z), by omega, by omega, rfl⟩
      | some x =>
        have x0 := t0 x rfl
        refine ⟨if (hs.length : Int) < x then (hs.length : Int) else x, ev_if (b := false) (et_test (ev_op kdat ev_c fun H7 e7 Q7 q7 => ⟨rfl, by simpa [latV] using q7 H7 (Ex.refl _)⟩)) (fun z => nomatch z) (fun _ => ?_), ?_, ?_, ?_⟩
        · intro H7 e7 Q7 q7
          exact kdat H7 e7 _ fun H8 e8 => (lenh (Bx.refl _) rfl) H8 (e7.trans e8) _ fun H9 e9 => ⟨x, hs.length, rfl, q7 H9 (e8.trans e9)⟩
        · split <;> omega
        · split <;> omega
        · simp [openAt]; split <;> omega
    refine q_asg hmost fun H7 e7 => ?_
    have bx7 := bx_ex bx6 e7
    show tSeq _ _ _ [some (.ref b), some (.ref l), some (.int n), some (.int 3), some (.ref st), some (.int (0 + (i : Int))), some (.int kd), some (.ref q), some (.int most), y9, y10, y11, y12, none, none] H7
    -- late
    refine ⟨_, rfl, _, rfl, _, rfl, most, 1, rfl, rfl, b, most + 1, rfl, bx7.bo hb3, by omega, by omega, fun r1 H8 r10 r11 bx8 => ⟨_, rfl, _, rfl, most, 1, rfl, rfl, b, most + 1, rfl, (bx7.trans bx8).bo hb3, by omega, by omega, fun r2 H9 r20 r21 bx9 => ⟨sz_of (by show 3 ≤ 100000; decide), fun pl hpl => ?_⟩⟩⟩
    have bx79 := (bx7.trans bx8).trans bx9
    have hplf := bx_free bx79 hb3 hpl
    have bxA := bx_upd (o := .lst [V.int 0, V.int r1, V.int r2]) bx79 hb3 hplf
    refine ⟨b, pl, _, rfl, bxA.bo hb3, ne_box hb3 hplf, upd_same, by show 0 < 3; decide, by show 3 ≤ 1000; decide, fun x HB hx bxB => ?_⟩
    obtain ⟨late, rfl, la0, la1⟩ : ∃ late : Int, x = .int late ∧ 0 ≤ late ∧ late ≤ most := by
      simp at hx
      rcases hx with rfl | rfl | rfl
      · exact ⟨0, rfl, by omega, m0⟩
      · exact ⟨r1, rfl, r10, by omega⟩
      · exact ⟨r2, rfl, r20, by omega⟩
    have bxAB := bxA.trans bxB
    have q6B : Bx (oneB b) H6 HB := by
      have u1 := (Bx.of e7 : Bx (oneB b) H6 H7).trans (bx8.trans bx9)
      have hb6 := bx6.bo hb3
      exact (bx_upd u1 hb6 (bx_free u1 hb6 hpl)).trans bxB
    have hqB : HB q = some (.lst (hs.map V.int)) := q6B.keep q _ hqb hq6
    clear hx bxA bxB
    refine g_go (σ' := [some (.ref b), some (.ref l), some (.int n), some (.int 3), some (.ref st), some (.int (0 + (i : Int))), some (.int kd), some (.ref q), some (.int most), some (.int late), y10, y11, y12, none, none]) rfl ?_
    dsimp only
    -- low
    obtain ⟨kk, hkk⟩ : ∃ kk : Nat, (hs.length : Int) - late = (kk : Int) := ⟨((hs.length : Int) - late).toNat, by omega⟩
    have kkl : kk ≤ hs.length := by omega
    obtain ⟨low, hlow⟩ : ∃ low, ((-1 : Int) :: hs)[kk]? = some low := ⟨_, List.getElem?_eq_getElem (by simp; omega)⟩
    have hbd' : ∀ x ∈ hs, 0 ≤ x ∧ x ≤ 6 * (i : Int) := fun x hx => by
      obtain ⟨p, hp, rfl⟩ := List.mem_map.mp (perm.mem_iff.mp hx)
      refine ⟨?_, hbd p hp⟩
      clear lc hmost
      -- each told moment is at least 0
      have : ∀ {nw : List (Int × Int)} {heard : List Int}, okFrom ls heard nw → ∀ p ∈ nw, 0 ≤ p.1 := by
        intro nw
        induction nw with
        | nil => intro _ _ p hp; simp at hp
        | cons z nw ih =>
          intro heard h p hp
          rcases List.mem_cons.mp hp with e | e
          · rw [e]; exact h.1.1.1
          · exact ih h.2 p e
      exact this hok p hp
    have low0 : -1 ≤ low ∧ low ≤ 6 * (i : Int) := by
      rcases List.mem_cons.mp (List.mem_of_getElem? hlow) with e | e
      · omega
      · have := hbd' low e; omega
    refine q_asg (v := .int low) (ev_ixN (K := K) (el_catV (el_lst (ea_cons (ev_neg (i := 1)) ea_nil) (by show 1 ≤ 100000; decide)) (ev_var rfl) hqB (by rw [List.length_map]; show 1 + _ ≤ _; omega)) (ev_subI (lenh q6B rfl) (ev_var rfl)) (by
      rw [hkk]
      refine atI_nat ?_
      have : ([V.int (-1)] ++ hs.map V.int) = (((-1 : Int) :: hs).map V.int) := rfl
      rw [this, List.getElem?_map, hlow]; rfl)) fun HC eC => ?_
    have q6C := bx_ex q6B eC
    have hqC := eC _ _ hqB
    show tSeq _ _ _ [some (.ref b), some (.ref l), some (.int n), some (.int 3), some (.ref st), some (.int (0 + (i : Int))), some (.int kd), some (.ref q), some (.int most), some (.int late), some (.int low), y11, y12, none, none] HC
    -- high
    obtain ⟨high, hhigh, hi1, hi2, hi3⟩ : ∃ high : Int, Ev (tIf (tTest (tOp (rI0 fun i j => .bl (decide (j < i))) (tVar 9) (tC (.int 0)))) (tOp (rIx K) (tVar 7) (tOp (rI0 fun i j => .int (i - j)) (tCB (rLenS K) (tCons (tVar 7) tNil)) (tVar 9))) (tOp (rI0 fun i j => .int (i + j)) (tOp (rI0 fun i j => .int (i + j)) (tVar 10) (tC (.int 2))) (tVar 3)))
        [some (.ref b), some (.ref l), some (.int n), some (.int 3), some (.ref st), some (.int (0 + (i : Int))), some (.int kd), some (.ref q), some (.int most), some (.int late), some (.int low), y11, y12, none, none] HC (.int high) ∧ (∀ x, hs[kk]? = some x → high ≤ x) ∧ high ≤ 6 * (i : Int) + 5 ∧ 0 ≤ high := by
      by_cases hla : 0 < late
      · obtain ⟨x, hx⟩ : ∃ x, hs[kk]? = some x := ⟨_, List.getElem?_eq_getElem (by omega)⟩
        have hxb := hbd' x (List.mem_of_getElem? hx)
        refine ⟨x, ev_if (b := decide ((0 : Int) < late)) (et_test (ev_gtI (ev_var rfl) ev_c)) (fun _ => ev_ixS (i := (hs.length : Int) - late) (ev_var rfl) (ev_subI (lenh q6C rfl) (ev_var rfl)) (.inl (sq_of hqC)) (by rw [hkk]; exact atI_nat (by rw [List.getElem?_map, hx]; rfl))) (fun z => by simp [hla] at z), fun x' hx' => ?_, by omega, by omega⟩
        rw [hx] at hx'; cases hx'; exact Int.le_refl _
      · refine ⟨low + 2 + 3, ev_if (b := decide ((0 : Int) < late)) (et_test (ev_gtI (ev_var rfl) ev_c)) (fun z => by simp [hla] at z) (fun _ => ev_addI (ev_addI (ev_var rfl) ev_c) (ev_var rfl)), fun x' hx' => ?_, by omega, by omega⟩
        rw [List.getElem?_eq_none (by omega)] at hx'; cases hx'
    refine q_asg hhigh fun HD eD => ?_
    have q6D := bx_ex q6C eD
    show tSeq _ _ _ [some (.ref b), some (.ref l), some (.int n), some (.int 3), some (.ref st), some (.int (0 + (i : Int))), some (.int kd), some (.ref q), some (.int most), some (.int late), some (.int low), some (.int high), y12, none, none] HD
    -- free
    refine ⟨_, rfl, low, 1, rfl, rfl, _, rfl, low + 1, high, rfl, rfl, RgOk.of_le (by omega) (by omega) (by omega) (by omega), fun qf hqf => ?_⟩
    have hb6 := bx6.bo hb3
    have hqf6 := bx_free q6D hb6 hqf
    have hqfb := ne_box hb6 hqf6
    have q6E := bx_upd (o := .lst (rgV (low + 1) high)) q6D hb6 hqf6
    have efree : rgV (low + 1) high = ((List.range (high - (low + 1)).toNat).map fun j : Nat => low + 1 + (j : Int)).map V.int := by unfold rgV; rw [List.map_map]; rfl
    generalize hfr : ((List.range (high - (low + 1)).toNat).map fun j : Nat => low + 1 + (j : Int)) = frees at efree
    rw [efree] at q6E ⊢
    have hfree : ∀ m ∈ frees, low < m ∧ m < high := fun m hm => by
      rw [← hfr] at hm
      obtain ⟨j, hj, rfl⟩ := List.mem_map.mp hm
      have := List.mem_range.mp hj
      omega
    have hfl : frees.length ≤ 1000 := by rw [← hfr]; simp; omega
    generalize hHE : upd HD qf (.lst (frees.map V.int)) = HE at q6E
    have hqfE : HE qf = some (.lst (frees.map V.int)) := by rw [← hHE]; exact upd_same
    clear hHE
    have bx3E : Bx (oneB b) H3 HE := bx6.trans q6E
    have hqE : HE q = some (.lst (hs.map V.int)) := q6E.keep q _ hqb hq6
    refine g_go (σ' := [some (.ref b), some (.ref l), some (.int n), some (.int 3), some (.ref st), some (.int (0 + (i : Int))), some (.int kd), some (.ref q), some (.int most), some (.int late), some (.int low), some (.int high), some (.ref qf), none, none]) rfl ?_
    dsimp only
    have hstE : HE st = some (.lst refs) := bx3E.keep st _ stb hst3
    -- what follows the store
    have fin : ∀ (m : Int) (HF : Hp) (t' : Addr), Bx (oneB b) HE HF → HF t' = none → okAt ls (nw.map (·.1)) (m, kd) → m ≤ 6 * (i : Int) + 6 →
        rAppend (.ref st) [.ref t'] (upd HF t' (.tup [.int m, .int kd])) (fun _ H1 => (∃ y5 y6 y7 y8 y9 y10 y11 y12, ([some (.ref b), some (.ref l), some (.int n), some (.int 3), some (.ref st), some (.int (0 + (i : Int))), some (.int kd), some (.ref q), some (.int most), some (.int late), some (.int low), some (.int high), some (.ref qf), none, none] : L2.St) = [some (.ref b), some (.ref l), some (.int n), some (.int 3), some (.ref st), y5, y6, y7, y8, y9, y10, y11, y12, none, none]) ∧ Bx (oneB b) H H1 ∧
          ∃ refs nw, H1 st = some (.lst refs) ∧ nw.length = i + 1 ∧ DpAll K (hide st (hide b H1)) refs (nw.map newsP) ∧ okFrom ls [] nw ∧ ∀ p ∈ nw, p.1 ≤ 6 * ((i + 1 : Nat) : Int)) := fun m HF t' bxF ht' hokm hm6 => by
      have bx3F := bx3E.trans bxF
      have htf := bx_free bx3F hb3 ht'
      have tb := ne_box hb3 htf
      have tst : t' ≠ st := fun z => by rw [z, hst3] at htf; cases htf
      have bx3G := bx_upd (o := .tup [V.int m, V.int kd]) bx3F hb3 htf
      have hstG : (upd HF t' (.tup [.int m, .int kd])) st = some (.lst refs) := bx3G.keep st _ stb hst3
      refine ⟨st, refs, .ref t', rfl, rfl, hstG, sz_lt (by omega), ⟨_, _, _, _, _, _, _, _, rfl⟩, bx_upd (bx3.trans bx3G) hb hst, refs ++ [.ref t'], nw ++ [(m, kd)], upd_same, by simp [hnl], ?_, okFrom_snoc hok (by simpa using hokm), fun p hp => ?_⟩
      · have ee : Ex (hide st (hide b (upd HF t' (.tup [.int m, .int kd])))) (hide st (hide b (upd (upd HF t' (.tup [.int m, .int kd])) st (.lst (refs ++ [.ref t']))))) := fun a o e => by
          by_cases z : a = st
          · unfold hide at e; rw [if_pos z] at e; cases e
          · rw [hide_ne z] at e ⊢
            by_cases z2 : a = b
            · unfold hide at e; rw [if_pos z2] at e; cases e
            · rw [hide_ne z2] at e ⊢; rw [upd_ne z]; exact e
        rw [List.map_append]
        refine da_append ((hda.ex (hide_bx2 bx3G)).ex ee) (.cons ?_ .nil)
        refine Dp.ex (.tup (st_of (hide_at (hide_at upd_same tb) tst)) (.cons (.int m) (.cons (.int kd) .nil))) ee
      · rcases List.mem_append.mp hp with h | h
        · have := hbd p h; push_cast; omega
        · simp at h; subst h; push_cast; show m ≤ _; omega
    refine ⟨_, rfl, .inl ⟨rfl, _, sq_of hstE⟩, ?_⟩
    refine ⟨_, rfl, sz_of (by show 0 ≤ 100000; decide), fun pe hpe => ⟨.list (frees.map PyData.int), .list [], ?_, .lst (sq_of upd_same) .nil, shaped_ints _, shaped_nil, _, rfl, ?_⟩⟩
    · exact .lst (sq_of (Ex.new hpe _ _ hqfE)) (da_ints _)
    rw [eqv_nil]
    have bxE1 : Bx (oneB b) HE (upd HE pe (.lst [])) := .of (Ex.new hpe)
    have hbE := bx3E.bo hb3
    cases hfe : frees.isEmpty with
    | false =>
      refine iteT ?_
      refine ⟨_, rfl, _, rfl, b, qf, _, rfl, bxE1.bo hbE, hqfb, Ex.new hpe _ _ hqfE, ?_, ?_, fun x HF hx bxF => ⟨_, rfl, sz_of (by show 2 ≤ 100000; decide), fun t' ht' => ?_⟩⟩
      · rw [List.length_map]
        cases frees with
        | nil => cases hfe
        | cons z r => simp
      · rw [List.length_map]; exact hfl
      · obtain ⟨m, hm, rfl⟩ := List.mem_map.mp hx
        obtain ⟨ml, mh⟩ := hfree m hm
        obtain ⟨d1, d2⟩ := draw_mid perm srt kkl (m := m) (fun j x hj hx hjk => by
          subst hjk
          have : ((-1 : Int) :: hs)[j + 1]? = hs[j]? := rfl
          rw [this, hx] at hlow
          cases hlow; exact ml) (fun x hx => Int.lt_of_lt_of_le mh (hi1 x hx))
        refine fin m HF t' (bxE1.trans bxF) ht' ⟨⟨by show 0 ≤ m; omega, by show m < 1000000; omega⟩, ⟨kd0, kd1⟩, d1, ?_⟩ (by omega)
        show openAt (lateOf _ m) _ = true
        rw [d2, ht]
        exact openAt_le (by omega) mo
    | true =>
      refine iteF ?_
      have vmax : Ev (tOp (rI0 fun i j => .int (i + j)) (tCB (rMax K) (tCons (tOp rCat (tVar 7) (tLst (tCons (tUn (rU fun i => .int (-i)) (tC (.int 1))) tNil))) tNil)) (tVar 3)) [some (.ref b), some (.ref l), some (.int n), some (.int 3), some (.ref st), some (.int (0 + (i : Int))), some (.int kd), some (.ref q), some (.int most), some (.int late), some (.int low), some (.int high), some (.ref qf), none, none] (upd HE pe (.lst [])) (.int ((hs ++ [-1]).tail.foldl max ((hs ++ [-1]).head?.getD 0) + 3)) :=
        ev_addI (ev_maxL (ns := hs ++ [-1]) ((el_vcat (ev_var rfl) (Ex.new hpe _ _ hqE) (el_lst (ea_cons (ev_neg (i := 1)) ea_nil) (by show 1 ≤ 100000; decide)) (by rw [List.length_map]; show _ + 1 ≤ _; omega)).to (by rw [List.map_append]; rfl)) (by simp)) (ev_var rfl)
      have hmx : (∀ x ∈ hs, x ≤ (hs ++ [-1]).tail.foldl max ((hs ++ [-1]).head?.getD 0)) ∧ -1 ≤ (hs ++ [-1]).tail.foldl max ((hs ++ [-1]).head?.getD 0) ∧ (hs ++ [-1]).tail.foldl max ((hs ++ [-1]).head?.getD 0) ≤ 6 * (i : Int) := by
        obtain ⟨z, zs, hz⟩ := List.exists_cons_of_ne_nil (show hs ++ [(-1 : Int)] ≠ [] by simp)
        rw [hz]
        obtain ⟨a1, a2⟩ := foldl_max zs z
        rw [← hz] at a1 a2
        refine ⟨fun x hx => a1 x (List.mem_append_left _ hx), a1 (-1) (by simp), ?_⟩
        rcases List.mem_append.mp a2 with h | h
        · exact (hbd' _ h).2
        · have e : zs.foldl max z = -1 := by simpa using h
          show zs.foldl max z ≤ _
          omega
      generalize (hs ++ [-1]).tail.foldl max ((hs ++ [-1]).head?.getD 0) = mx at vmax hmx
      refine vmax _ (Ex.refl _) _ fun HF eF => ?_
      have bxEF := bx_ex bxE1 eF
      refine ⟨_, rfl, _, rfl, b, 3, rfl, bxEF.bo hbE, by decide, by decide, fun r HG r0 r1 bxG => ⟨_, _, rfl, rfl, _, rfl, sz_of (by show 2 ≤ 100000; decide), fun t' ht' => ?_⟩⟩
      obtain ⟨d1, d2⟩ := draw_mid perm srt (Nat.le_refl hs.length) (m := mx + 3 + r) (fun j x hj hx hjk => by
        have := hmx.1 x (List.mem_of_getElem? hx); omega) (fun x hx => by rw [List.getElem?_eq_none (Nat.le_refl _)] at hx; cases hx)
      refine fin (mx + 3 + r) HG t' (bxEF.trans bxG) ht' ⟨⟨by show 0 ≤ mx + 3 + r; omega, by show mx + 3 + r < 1000000; omega⟩, ⟨kd0, kd1⟩, d1, ?_⟩ (by omega)
      show openAt (lateOf _ (mx + 3 + r)) _ = true
      rw [d2, ht]
      exact openAt_le (by omega) mo
  · obtain ⟨⟨y5, y6, y7, y8, y9, y10, y11, y12, rfl⟩, bx3, refs, nw, hst3, hnl, hda, hok, hbd⟩ := hp
    refine ⟨_, rfl, st, refs, rfl, .inl ⟨sq_of hst3, fun p hp => ?_⟩⟩
    have hpf := bx_free bx3 hb hp
    have hpb := ne_box hb hpf
    refine kQ _ _ nw (bx_upd bx3 hb hpf) ⟨.tup (st_of (hide_at upd_same hpb)) (hda.ex ?_), hok, by omega⟩
    exact hide_le.trans (hide_bx (bx_upd (Bx.refl H3) (bx3.bo hb) hp))
end
end Fw
/-! _law_is_below, _law_fault -/
namespace Fw
open PySem PySem.Spec PyProof.Rows L2 Evl
section
variable {P : Program} {w : World} {K : Kf} {mg : Str → Option Value} {base : Heap}
abbrev sLib : Stmt := topS 37
theorem scLib : FnScope ["_law_value", "_law_bound"] ["_law_value", "_law_bound"] (defScope sLib) := ⟨rfl, rfl, rfl, by decide +kernel, rfl, by decide +kernel, by decide +kernel⟩
theorem ev_chain {σ : L2.St} {H : Hp} {ta tb tc : TE} {r r' : R2} {x y z : V} {b1 b2 : Bool} (ha : Ev ta σ H x) (hb : Ev tb σ H y) (hr : RV r x y H (.bl b1)) (hc : b1 = true → Ev tc σ H z) (hr' : b1 = true → RV r' y z H (.bl b2)) : Ev (tChain r r' ta tb tc) σ H (.bl (b1 && b2)) := fun H1 e Q q =>
  ha H1 e _ fun H2 e2 => hb H2 (e.trans e2) _ fun H3 e3 => hr H3 ((e.trans e2).trans e3) _ fun H4 e4 => ⟨b1, rfl, by
    cases b1 with
    | false => exact q H4 ((e2.trans e3).trans e4)
    | true => exact hc rfl H4 (((e.trans e2).trans e3).trans e4) _ fun H5 e5 => hr' rfl H5 ((((e.trans e2).trans e3).trans e4).trans e5) _ fun H6 e6 => q H6 ((((e2.trans e3).trans e4).trans e5).trans e6)⟩
theorem ok_lib {f : Addr} {fd : FuncData} (D : Dfn K mg "_law_is_below" sLib ["_law_value", "_law_bound"] f fd) (B : Blt mg) : FnOk P w K mg base CX0 1 f fd ["_law_value", "_law_bound"] (SpVal (RBelow K) 2) := by
  refine D.F.ok scLib SpVal.len (fun cdv A outer s H vs Q E hr h => ?_)
  obtain ⟨_, z, ⟨v, d, n, rfl, hd, rfl⟩, k⟩ := h
  refine ⟨_, pss_one (ps_ret (pe_and (pe_isi B (by rfl) (by rfl) B.int "int" bt_int (pv 0)) (pe_and (pe_not (pe_isi B (by rfl) (by rfl) B.bool "bool" bt_bool (pv 0))) (pe_one (pe_chain op_le op_lt pe_int (pv 0) (pv 1)))))), ?_⟩
  have v0 : Ev (tVar 0) (start ["_law_value", "_law_bound"] [v, .int n]) H v := ev_var rfl
  refine s_ret (v := .bl (belowD n d)) (ev_is (ev_andV (ev_isi "int" v0 hd (kit_int d (dp_nodict hd))) (b := belowD n d) fun h1 => ev_is (ev_andV (ev_notV (ev_isi "bool" v0 hd (kit_bool d (dp_nodict hd)))) (b := belowD n d) fun h2 => ?_) ?_) ?_) k
  · obtain ⟨i, rfl, rfl⟩ := int_of hd (by cases d <;> first | rfl | exact Bool.noConfusion h2 | exact Bool.noConfusion h1)
    exact ev_chain (b1 := decide ((0 : Int) ≤ i)) (b2 := decide (i < n)) ev_c v0 (rv_I0 (g := fun i j => .bl (decide (i ≤ j)))) (fun _ => ev_var rfl) (fun _ => rv_I0 (g := fun i j => .bl (decide (i < j))))
  · cases d <;> first | rfl | simp [isBoolD, belowD]
  · cases d <;> first | rfl | simp [isBoolD, isIntD, belowD]
/-! ### _law_fault -/
abbrev sFault : Stmt := topS 38
def outV : Option Int → V
  | none => .non
  | some i => .int i
def RFault (K : Kf) : List V → Hp → V → Prop := fun vs H z => ∃ v l d ls, vs = [v, .ref l] ∧ Dp K H v d ∧ SqT K H l (ls.map latV) ∧ z = outV (toldFault ls d)
abbrev nFault : List Str := ["_law_value", "_law_lateness_here", "_law_heard", "_law_at", "_law_news", "_law_late", "_law_moment"]
theorem scFault : FnScope nFault ["_law_value", "_law_lateness_here"] (defScope sFault) := ⟨rfl, rfl, rfl, by decide +kernel, rfl, by decide +kernel, by decide +kernel⟩
theorem ok_fault {f fb : Addr} {fd fdb : FuncData} (D : Dfn K mg "_law_fault" sFault ["_law_value", "_law_lateness_here"] f fd) (Db : Dfn K mg "_law_is_below" sLib ["_law_value", "_law_bound"] fb fdb) (B : Blt mg) : FnOk P w K mg base CX0 2 f fd ["_law_value", "_law_lateness_here"] (SpVal (RFault K) 2) := by
  refine D.F.ok scFault SpVal.len (fun cdv A outer s H vs Q E hr h => ?_)
  obtain ⟨_, z, ⟨v, l, d, ls, rfl, hd, hl, rfl⟩, k⟩ := h
  have G := ok_lib (P := P) (w := w) (base := base) Db B
  refine ⟨_, pss_cons (ps_if (pw_or (pt_not (pt_val (pe_isSeq B (by rfl) (by rfl) (by rfl) (pv 0)))) (pw_or1 (pt_cmpR op_gt (pe_len B (by rfl) (pv 0)) pe_int (nomark _)))).pt (pss_one (ps_ret (pe_un un_neg pe_int))) pss_nil)
    (pss_cons (ps_set (i := 2) scFault.nd rfl (.inl rfl) (pe_lst pa_nil))
    (pss_cons (ps_for PassesOwn.never rfl (pi_range1 (by rfl) B.range (pa_cons (pe_len B (by rfl) (pv 0)) pa_nil)) (pg_name (i := 3) scFault.nd rfl (.inl rfl))
      (pss_cons (ps_set (i := 4) scFault.nd rfl (.inr rfl) (pe_ix ix_seq (pv 0) (pv 3) (fun _ _ => rfl)))
      (pss_cons (ps_if (pw_or (pt_not (pt_val (pe_isSeq B (by rfl) (by rfl) (by rfl) (pv 4)))) (pw_or (pt_cmpR op_ne (pe_len B (by rfl) (pv 4)) pe_int (nomark _)) (pw_or1 (pt_not (pt_val (pe_dfn G Db hr (by rfl) (pa_cons (pe_ix ix_seq (pv 4) pe_int (fun _ _ => rfl)) (pa_cons pe_int pa_nil)))))))).pt (pss_one (ps_ret (pv 3))) pss_nil)
      (pss_cons (ps_if (pw_or (pt_not (pt_val (pe_dfn G Db hr (by rfl) (pa_cons (pe_ix ix_seq (pv 4) pe_int (fun _ _ => rfl)) (pa_cons (pe_len B (by rfl) (pv 1)) pa_nil))))) (pw_or1 (pt_cmpR op_in_seq (pe_ix ix_seq (pv 4) pe_int (fun _ _ => rfl)) (pv 2) (by with_unfolding_all rfl)))).pt (pss_one (ps_ret (pv 3))) pss_nil)
      (pss_cons (ps_set (i := 5) scFault.nd rfl (.inl rfl) (pe_len B (by rfl) (pe_lc (own := [("_law_moment", 6)]) rfl scFault.nd (pi_seq (pv 2)) (blkOk_by (by rfl)) (fun _ _ _ _ _ => pg_name (i := 6) scFault.nd rfl (Or.inl rfl))
        (fun _ _ _ _ _ => pts_one (pt_cmpR op_gt (pv 6) (pe_ixB K rfl (pv 4) pe_int (fun _ _ => rfl)) (nomark _))) (fun _ _ _ _ _ => pv 6))))
      (pss_cons (ps_if (pw_and (pt_cmpR op_notN (pe_ix ix_seq (pv 1) (pe_ix ix_seq (pv 4) pe_int (fun _ _ => rfl)) (fun _ _ => rfl)) pe_non (nomark _)) (pw_and1 (pt_cmpR op_lt (pe_ix ix_seq (pv 1) (pe_ix ix_seq (pv 4) pe_int (fun _ _ => rfl)) (fun _ _ => rfl)) (pv 5) (nomark _)))).pt (pss_one (ps_ret (pv 3))) pss_nil)
      (pss_one (ps_expr (pe_bm PySem.F.plainAttrs_list PySem.F.slot_list_append PySem.F.type_list_append mt_append (pv 2) (pa_cons (pe_ix ix_seq (pv 4) pe_int (fun _ _ => rfl)) pa_nil))))))))))
    (pss_one (ps_ret pe_non)))), ?_⟩
  have v0 : Ev (tVar 0) (start nFault [v, .ref l]) H v := ev_var rfl
  cases hsd : seqD d with
  | none =>
    have hf : toldFault ls d = some (-1) := by unfold toldFault; rw [hsd]
    rw [hf] at k
    have ts := ev_isSeq (K := K) v0 hd
    rw [hsd] at ts
    exact q_when (b := true) (et_or (a := true) (b := false) (et_not (a := false) (et_B ts)) (fun z => nomatch z)) (fun _ H1 e1 => s_ret (v := .int (-1)) ev_neg fun H2 e2 => k H2 (e1.trans e2)) (fun z => nomatch z)
  | some ds =>
    obtain ⟨a, xs, rfl, hq, ha⟩ := dp_seq hd hsd
    have hxl := da_len ha
    have ts := ev_isSeq (K := K) v0 hd
    rw [hsd] at ts
    have test := et_or (a := false) (et_not (a := true) (et_B ts)) fun _ => et_test (ev_gtI (i := (xs.length : Int)) (j := 400) (ev_lenS v0 hq) ev_c)
    by_cases h4 : 400 < ds.length
    · have hf : toldFault ls d = some (-1) := by unfold toldFault; rw [hsd]; simp [h4]
      rw [hf] at k
      exact q_when (b := true) (et_is test (by simp [hxl]; omega)) (fun _ H1 e1 => s_ret (v := .int (-1)) ev_neg fun H2 e2 => k H2 (e1.trans e2)) (fun z => nomatch z)
    · have hf : toldFault ls d = faultFrom ls [] 0 ds := by unfold toldFault; rw [hsd]; simp [h4]
      refine q_when (b := false) (et_is test (by simp [hxl]; omega)) (fun z => nomatch z) fun _ H1 e1 => ?_
      refine q_asgL (xs := []) (el_lst ea_nil (by show 0 ≤ 100000; decide)) fun st H2 hst e2 h2 => ?_
      have e12 := e1.trans e2
      have hst0 : H st = none := fresh_back e1 hst
      refine ⟨_, rfl, a, xs, rfl, hq.ex e12, (xs.length : Int), rfl, by omega, by omega, ?_⟩
      have hnat : (xs.length : Int).toNat = xs.length := by omega
      rw [hnat]
      refine for_it walk_range (fun i σ H' => (∃ y3 y4 y5, σ = [some (.ref a), some (.ref l), some (.ref st), y3, y4, y5, none]) ∧ Ex H H' ∧ H' st = some (.lst (((ds.take i).map momentOf).map V.int)) ∧
          (toldFault ls d = faultFrom ls ((ds.take i).map momentOf) i (ds.drop i)))
        ⟨⟨_, _, _, rfl⟩, e12, h2, by rw [hf]; rfl⟩ (fun _ _ _ _ _ => trivial) (fun i x σ H4' H4 hi p y => ?_) (fun σ H4 p => ?_)
      · obtain ⟨rfl, rfl⟩ := y
        obtain ⟨⟨y3, y4, y5, rfl⟩, e4, hst4, hF⟩ := p
        obtain ⟨x, hx⟩ : ∃ x, xs[i]? = some x := ⟨_, List.getElem?_eq_getElem hi⟩
        obtain ⟨dx, hdx, hvx⟩ := da_get ha hx
        have hdrop : ds.drop i = dx :: ds.drop (i + 1) := by
          obtain ⟨hi', e'⟩ := List.getElem?_eq_some_iff.mp hdx
          rw [List.drop_eq_getElem_cons hi', e']
        have fault_at : newsBad ls ((ds.take i).map momentOf) dx = true → toldFault ls d = some (i : Int) := fun hb => by
          rw [hF, hdrop]
          unfold faultFrom
          rw [if_pos hb]
        refine g_go (σ' := [some (.ref a), some (.ref l), some (.ref st), some (.int (0 + (i : Int))), y4, y5, none]) rfl ?_
        rw [Int.zero_add]
        -- news = value[at]
        refine q_asg (v := x) (ev_ixS (K := K) (ev_var rfl) (ev_var rfl) (hq.ex e4) (atI_nat hx)) fun H5 e5 => ?_
        show tSeq _ _ _ [some (.ref a), some (.ref l), some (.ref st), some (.int (i : Int)), some x, y5, none] H5
        have e05 := e4.trans e5
        have hst5 := e5 _ _ hst4
        have done : ∀ {H' : Hp} {σ' : L2.St}, Ex H H' → toldFault ls d = some (i : Int) → σ'[3]? = some (some (.int (i : Int))) → ∀ {D : Ends}, D.rt = Q → tRet (tVar 3) D σ' H' := fun {H' σ'} e hh h3 {D} hD => s_ret (ev_var h3) fun H6 e6 => by
          rw [hD]
          have := k H6 (e.trans e6)
          rw [hh] at this
          exact this
        have v4 : ∀ {H' : Hp}, Ev (tVar 4) [some (.ref a), some (.ref l), some (.ref st), some (.int (i : Int)), some x, y5, none] H' x := ev_var rfl
        have tsx := ev_isSeq (K := K) (σ := [some (.ref a), some (.ref l), some (.ref st), some (.int (i : Int)), some x, y5, none]) v4 (hvx.ex e05)
        cases hsx : seqD dx with
        | none =>
          rw [hsx] at tsx
          have hb : newsBad ls ((ds.take i).map momentOf) dx = true := by unfold newsBad newsD; rw [hsx]
          exact q_when (b := true) (et_or (a := true) (b := false) (et_not (a := false) (et_B tsx)) (fun z => nomatch z)) (fun _ H6 e6 => done (e05.trans e6) (fault_at hb) rfl rfl) (fun z => nomatch z)
        | some es =>
          rw [hsx] at tsx
          obtain ⟨ax, us, rfl, hqx, hau⟩ := dp_seq hvx hsx
          have hul := da_len hau
          have tl := et_test (ev_neI (i := (us.length : Int)) (j := 2) (ev_lenS (K := K) v4 (hqx.ex e05)) ev_c)
          by_cases h2 : es.length = 2
          · obtain ⟨u0, u1, rfl⟩ : ∃ u0 u1, us = [u0, u1] := match us, (hul.trans h2) with | [u0, u1], _ => ⟨u0, u1, rfl⟩
            match es, h2, hsx, hau, hul with
            | [d0, d1], _, hsx, hau, hul =>
              cases hau with
              | cons q0 hau =>
                cases hau with
                | cons q1 hau =>
                  cases hau
                  have t0 := ev_val (R := RBelow K) (vs := [u0, .int 1000000]) (ea_cons (ev_ixS (K := K) v4 (ev_c (v := .int 0)) (hqx.ex e05) rfl) (ea_cons (ev_c (v := .int 1000000)) ea_nil)) rfl fun H6 e6 => ⟨u0, d0, 1000000, rfl, q0.ex (e05.trans e6), rfl⟩
                  have tst := et_or (a := false) (et_not (a := true) (et_B tsx)) fun _ => et_or (a := false) (et_is tl (by simp)) fun _ => et_not (et_B t0)
                  cases hb0 : belowD 1000000 d0 with
                  | false =>
                    rw [hb0] at tst
                    have hb : newsBad ls ((ds.take i).map momentOf) dx = true := by
                      unfold newsBad newsD; rw [hsx]
                      cases d0 <;> cases d1 <;> first | rfl | (simp [belowD] at hb0 ⊢; split <;> simp_all; omega)
                    exact q_when (b := true) tst (fun _ H6 e6 => done (e05.trans e6) (fault_at hb) rfl rfl) (fun z => nomatch z)
                  | true =>
                    rw [hb0] at tst
                    obtain ⟨mm, rfl, m0, m1⟩ := below_int hb0
                    cases q0
                    refine q_when (b := false) tst (fun z => nomatch z) fun _ H6 e6 => ?_
                    have e06 := e05.trans e6
                    have hst6 := e6 _ _ hst5
                    have t1 := ev_val (R := RBelow K) (vs := [u1, .int (ls.length : Int)]) (ea_cons (ev_ixS (K := K) (v4 (H' := H6)) (ev_c (v := .int 1)) (hqx.ex e06) rfl) (ea_cons (by
                      have z := ev_lenS (K := K) (te := tVar 1) (σ := [some (.ref a), some (.ref l), some (.ref st), some (.int (i : Int)), some (.ref ax), y5, none]) (H := H6) (ev_var rfl) (.inr (ex_t e06 hl))
                      rw [List.length_map] at z
                      exact z) ea_nil)) rfl fun H7 e7 => ⟨u1, d1, _, rfl, q1.ex (e06.trans e7), rfl⟩
                    have t2 := et_test (ev_op (ev_ixS (K := K) (v4 (H' := H6)) (ev_c (v := .int 0)) (hqx.ex e06) (v := .int mm) rfl) (ev_var (i := 2) rfl) (rv_isL (K := K) (sq_of hst6) rfl (flat_ints _)))
                    rw [inV_ints] at t2
                    have tst2 := et_or (et_not (et_B t1)) fun _ => t2
                    cases hb1 : belowD (ls.length : Int) d1 with
                    | false =>
                      rw [hb1] at tst2
                      have hb : newsBad ls ((ds.take i).map momentOf) dx = true := by
                        unfold newsBad newsD; rw [hsx]
                        cases d1 <;> first | rfl | (simp [belowD] at hb1 ⊢; split <;> simp_all; omega)
                      exact q_when (b := true) tst2 (fun _ H7 e7 => done (e06.trans e7) (fault_at hb) rfl rfl) (fun z => nomatch z)
                    | true =>
                      rw [hb1] at tst2
                      obtain ⟨jj, rfl, j0, j1⟩ := below_int hb1
                      cases q1
                      have hn : newsD (ls.length : Int) dx = some (mm, jj) := by unfold newsD; rw [hsx]; simp [m0, m1, j0, j1]
                      cases hc : ((ds.take i).map momentOf).contains mm with
                      | true =>
                        rw [hc] at tst2
                        have hb : newsBad ls ((ds.take i).map momentOf) dx = true := by unfold newsBad; rw [hn]; simp only [hc]; rfl
                        exact q_when (b := true) tst2 (fun _ H7 e7 => done (e06.trans e7) (fault_at hb) rfl rfl) (fun z => nomatch z)
                      | false =>
                        rw [hc] at tst2
                        refine q_when (b := false) tst2 (fun z => nomatch z) fun _ H7 e7 => ?_
                        have e07 := e06.trans e7
                        have hst7 := e7 _ _ hst6
                        -- late
                        have late : EvL (tLc (iSeq K (tVar 2)) (gName 6) (tTest (tOp (rI0 fun i j => .bl (decide (j < i))) (tVar 6) (tOp (rIx K) (tVar 4) (tC (.int 0))))) (tVar 6) [6]) [some (.ref a), some (.ref l), some (.ref st), some (.int (i : Int)), some (.ref ax), y5, none] H7 ((((ds.take i).map momentOf).filter fun z => decide (mm < z)).map V.int) := by
                          have g := el_lcQ (K := K) (tl := tVar 2) (σ := [some (.ref a), some (.ref l), some (.ref st), some (.int (i : Int)), some (.ref ax), y5, none]) (H := H7) (j := 6) (vs := [6]) (xs := ((ds.take i).map momentOf).map V.int) (t := tTest (tOp (rI0 fun i j => .bl (decide (j < i))) (tVar 6) (tOp (rIx K) (tVar 4) (tC (.int 0))))) (te := tVar 6)
                            (fun n => (fun z : Int => decide (mm < z)) (((ds.take i).map momentOf).getD n 0)) (fun n => V.int (((ds.take i).map momentOf).getD n 0)) (es_of (ev_var rfl) (.inl (sq_of hst7))) (by rw [List.length_map, List.length_map, List.length_take]; omega) (fun x => rfl) (fun n y H8 e8 hy => by
                              rw [List.getElem?_map] at hy
                              obtain ⟨z, hz, rfl⟩ := Option.map_eq_some_iff.mp hy
                              rw [getD_of hz]
                              exact et_test (ev_gtI (ev_var rfl) (ev_ixS (ev_var rfl) ev_c (hqx.ex (e07.trans e8)) rfl))) (fun n y H8 e8 hy _ => by
                              rw [List.getElem?_map] at hy
                              obtain ⟨z, hz, rfl⟩ := Option.map_eq_some_iff.mp hy
                              rw [getD_of hz]
                              exact ev_var rfl)
                          exact g.to (by rw [List.length_map]; exact given_list ((ds.take i).map momentOf) (fun z : Int => decide (mm < z)) V.int 0)
                        refine q_asg (ev_lenL (es_L late)) fun H8 e8 => ?_
                        rw [List.length_map]
                        show tSeq _ _ _ [some (.ref a), some (.ref l), some (.ref st), some (.int (i : Int)), some (.ref ax), some (.int (lateOf ((ds.take i).map momentOf) mm)), none] H8
                        have e08 := e07.trans e8
                        have hst8 := e8 _ _ hst7
                        obtain ⟨t, ht⟩ : ∃ t, ls[jj.toNat]? = some t := ⟨_, List.getElem?_eq_getElem (by omega)⟩
                        have kat : ∀ {H' : Hp}, Ex H H' → Ev (tOp (rIx K) (tVar 1) (tOp (rIx K) (tVar 4) (tC (.int 1)))) [some (.ref a), some (.ref l), some (.ref st), some (.int (i : Int)), some (.ref ax), some (.int (lateOf ((ds.take i).map momentOf) mm)), none] H' (latV t) := fun {H'} e => ev_ixT (i := jj) (ev_var rfl) (ev_ixS (ev_var rfl) ev_c (hqx.ex e) rfl) (ex_t e hl) (by
                          have ej : jj = ((jj.toNat : Nat) : Int) := by omega
                          rw [ej]
                          exact atI_nat (by rw [List.getElem?_map, ht]; rfl))
                        have hbe : newsBad ls ((ds.take i).map momentOf) dx = !(openAt (lateOf ((ds.take i).map momentOf) mm) t) := by
                          unfold newsBad; rw [hn]; simp only [hc, ht]; rfl
                        have tst3 : EvT (tAnd (tTest (tOp (fun x y H Q => y = .non ∧ Q (.bl (!decide (x = .non))) H) (tOp (rIx K) (tVar 1) (tOp (rIx K) (tVar 4) (tC (.int 1)))) (tC .non))) (tTest (tOp (rI0 fun i j => .bl (decide (i < j))) (tOp (rIx K) (tVar 1) (tOp (rIx K) (tVar 4) (tC (.int 1)))) (tVar 5))))
                            [some (.ref a), some (.ref l), some (.ref st), some (.int (i : Int)), some (.ref ax), some (.int (lateOf ((ds.take i).map momentOf) mm)), none] H8 (newsBad ls ((ds.take i).map momentOf) dx) := by
                          rw [hbe]
                          cases t with
                          | none => exact et_is (et_and (a := false) (b := false) (et_test (ev_op (kat e08) ev_c fun H9 e9 Q9 q9 => ⟨rfl, by simpa [latV] using q9 H9 (Ex.refl _)⟩)) (fun z => nomatch z)) rfl
                          | some t => exact et_is (et_and (a := true) (b := decide (t < lateOf ((ds.take i).map momentOf) mm)) (et_test (ev_op (kat e08) ev_c fun H9 e9 Q9 q9 => ⟨rfl, by simpa [latV] using q9 H9 (Ex.refl _)⟩)) (fun _ => et_test (ev_ltI (kat e08) (ev_var rfl)))) (by simp only [openAt, Bool.true_and]; rw [Bool.eq_iff_iff]; simp)
                        cases hb : newsBad ls ((ds.take i).map momentOf) dx with
                        | true =>
                          rw [hb] at tst3
                          exact q_when (b := true) tst3 (fun _ H9 e9 => done (e08.trans e9) (fault_at hb) rfl rfl) (fun z => nomatch z)
                        | false =>
                          rw [hb] at tst3
                          refine q_when (b := false) tst3 (fun z => nomatch z) fun _ H9 e9 => ?_
                          have e09 := e08.trans e9
                          have hst9 := e9 _ _ hst8
                          refine s_app (l := st) (v := .int mm) hst9 (ev_var rfl) (ev_ixS (ev_var rfl) ev_c (hqx.ex e09) rfl) (by rw [List.length_map, List.length_map, List.length_take]; omega) fun HA eA => ⟨⟨_, _, _, rfl⟩, Ex.mut (e09.trans eA) hst0, ?_, ?_⟩
                          · have et : ds.take (i + 1) = ds.take i ++ [dx] := by rw [List.take_succ, hdx]; rfl
                            rw [upd_same, et, List.map_append, List.map_append]
                            show _ = some (HO.lst (_ ++ [V.int (momentOf dx)]))
                            rw [news_moment hn]
                          · rw [hF, hdrop]
                            conv => lhs; unfold faultFrom
                            rw [hb, if_neg Bool.false_ne_true]
                            have et : ds.take (i + 1) = ds.take i ++ [dx] := by rw [List.take_succ, hdx]; rfl
                            rw [et, List.map_append]
                            rfl
          · have hb : newsBad ls ((ds.take i).map momentOf) dx = true := by
              unfold newsBad newsD; rw [hsx]
              match es, h2 with
              | [], _ => rfl
              | [_], _ => rfl
              | _ :: _ :: _ :: _, _ => rfl
            exact q_when (b := true) (et_or (a := false) (b := true) (et_not (a := true) (et_B tsx)) fun _ => et_or (a := true) (b := false) (et_is tl (by simp; omega)) (fun z => nomatch z)) (fun _ H6 e6 => done (e05.trans e6) (fault_at hb) rfl rfl) (fun z => nomatch z)
      · obtain ⟨⟨y3, y4, y5, rfl⟩, e4, hst4, hF⟩ := p
        have hnone : toldFault ls d = none := by rw [hF, hxl, List.drop_length]; rfl
        rw [hnone] at k
        exact k H4 e4
end
end Fw
/-! _law_spoilt -/
namespace Fw
open PySem PySem.Spec PyProof.Rows L2 Evl
/-- a plain value, or an empty tuple -/
def Atm (H : Hp) (u : V) : Prop := (∃ d, ∀ (K : Kf) (G : Hp), Dp K G u d) ∨ ∃ e, u = .ref e ∧ H e = some (.tup [])
theorem atm_keep {b : Addr} {H H' : Hp} {u : V} (hb : Box H b) (h : Bx (oneB b) H H') (a : Atm H u) : Atm H' u := by
  rcases a with a | ⟨e, rfl, he⟩
  · exact .inl a
  · refine .inr ⟨e, rfl, h.keep e _ (fun z => ?_) he⟩
    obtain ⟨x, y, w, q⟩ := hb
    rw [show e = b from z, q] at he; cases he
theorem atm_int {H : Hp} (i : Int) : Atm H (.int i) := .inl ⟨.int i, fun _ _ => .int i⟩
theorem atm_ex {H H' : Hp} {u : V} (e : Ex H H') (a : Atm H u) : Atm H' u := by
  rcases a with a | ⟨x, rfl, he⟩
  · exact .inl a
  · exact .inr ⟨x, rfl, e _ _ he⟩
theorem atm_lst {H : Hp} {r : Addr} {xs ys : List V} {u : V} (hr : H r = some (.lst xs)) (a : Atm H u) : Atm (upd H r (.lst ys)) u := by
  rcases a with a | ⟨e, rfl, he⟩
  · exact .inl a
  · refine .inr ⟨e, rfl, ?_⟩
    rw [upd_ne (fun z => by rw [z, hr] at he; cases he)]
    exact he
theorem atm_dp {K : Kf} {H G : Hp} {u : V} (a : Atm H u) (hG : ∀ e, u = .ref e → H e = some (.tup []) → G e = some (.tup [])) : ∃ d, Dp K G u d := by
  rcases a with ⟨d, h⟩ | ⟨e, rfl, he⟩
  · exact ⟨d, h K G⟩
  · exact ⟨_, .tup (st_of (hG e rfl he)) .nil⟩
/-- a row of two such values, not the list of rows -/
def RowL (Z : Hp) (R : Addr) (H : Hp) (y : V) : Prop := ∃ r u v, y = .ref r ∧ H r = some (.lst [u, v]) ∧ Atm H u ∧ Atm H v ∧ r ≠ R ∧ Z r = none
theorem ne_row {b r : Addr} {H : Hp} {u v : V} (hb : Box H b) (h : H r = some (.lst [u, v])) : r ≠ b := fun z => by
  obtain ⟨x, y, w, q⟩ := hb
  rw [z, q] at h
  have := Option.some.inj h
  injection this with this
  injection this with _ this
  injection this with _ this
  cases this
theorem rowL_mut {Z : Hp} {R r : Addr} {H : Hp} {y u v x z : V} (hr : H r = some (.lst [u, v])) (hx : Atm H x) (hz : Atm H z) (a : RowL Z R H y) : RowL Z R (upd H r (.lst [x, z])) y := by
  obtain ⟨q, u', v', rfl, hq, hu', hv', hn⟩ := a
  by_cases e : q = r
  · subst e
    exact ⟨q, x, z, rfl, upd_same, atm_lst hr hx, atm_lst hr hz, hn⟩
  · exact ⟨q, u', v', rfl, by rw [upd_ne e]; exact hq, atm_lst hr hu', atm_lst hr hv', hn⟩
theorem rowL_ex {Z : Hp} {R : Addr} {H H' : Hp} {y : V} (e : Ex H H') (a : RowL Z R H y) : RowL Z R H' y := by
  obtain ⟨r, u, v, rfl, hr, hu, hv, hn⟩ := a
  exact ⟨r, u, v, rfl, e _ _ hr, atm_ex e hu, atm_ex e hv, hn⟩
theorem rowL_bx {Z : Hp} {b R : Addr} {H H' : Hp} {y : V} (hb : Box H b) (h : Bx (oneB b) H H') (a : RowL Z R H y) : RowL Z R H' y := by
  obtain ⟨r, u, v, rfl, hr, hu, hv, hn⟩ := a
  exact ⟨r, u, v, rfl, h.keep r _ (ne_row hb hr) hr, atm_keep hb h hu, atm_keep hb h hv, hn⟩
/-- data that does not lean on R or b -/
def Av (K : Kf) (R b : Addr) (H : Hp) (y : V) : Prop := ∃ d, Dp K (hide R (hide b H)) y d
theorem rowL_av {K : Kf} {Z : Hp} {b R : Addr} {H : Hp} {xs : List V} {y : V} (hb : Box H b) (hR : H R = some (.lst xs)) (a : RowL Z R H y) : Av K R b H y := by
  obtain ⟨r, u, v, rfl, hr, hu, hv, hn, _⟩ := a
  have tb : ∀ e, H e = some (.tup []) → (hide R (hide b H)) e = some (.tup []) := fun e he => hide_at (hide_at he (fun z => by
    obtain ⟨x, y, w, q⟩ := hb; rw [z, q] at he; cases he)) (fun z => by rw [z, hR] at he; cases he)
  obtain ⟨d1, h1⟩ := atm_dp (K := K) (G := hide R (hide b H)) hu fun e _ he => tb e he
  obtain ⟨d2, h2⟩ := atm_dp (K := K) (G := hide R (hide b H)) hv fun e _ he => tb e he
  exact ⟨.list [d1, d2], .lst (sq_of (hide_at (hide_at hr (ne_row hb hr)) hn)) (.cons h1 (.cons h2 .nil))⟩
theorem hide_swap {R b : Addr} {H : Hp} {o : HO} (hn : R ≠ b) : Ex (hide R (hide b H)) (hide b (upd H R o)) := fun a u e => by
  by_cases z : a = R
  · unfold hide at e; rw [if_pos z] at e; cases e
  · rw [hide_ne z] at e
    by_cases z2 : a = b
    · unfold hide at e; rw [if_pos z2] at e; cases e
    · rw [hide_ne z2] at e ⊢; rw [upd_ne z]; exact e
/-- a list of such data is data -/
theorem dp_list {K : Kf} {b R : Addr} {H : Hp} {ys : List V} (hn : R ≠ b) (hR : H R = some (.lst ys)) (h : ∀ y ∈ ys, ∃ d, Dp K (hide b H) y d) : ∃ d, Dp K (hide b H) (.ref R) d := by
  have : ∃ ds, DpAll K (hide b H) ys ds := by
    clear hR
    induction ys with
    | nil => exact ⟨[], .nil⟩
    | cons y ys ih =>
      obtain ⟨ds, hds⟩ := ih fun z hz => h z (List.mem_cons_of_mem _ hz)
      obtain ⟨d, hd⟩ := h y List.mem_cons_self
      exact ⟨d :: ds, .cons hd hds⟩
  obtain ⟨ds, hds⟩ := this
  exact ⟨.list ds, .lst (sq_of (hide_at hR hn)) hds⟩
theorem cut_mem {xs : List V} {lo hi : Option Int} {y : V} (h : y ∈ cutV xs lo hi) : y ∈ xs := List.mem_of_mem_drop (List.mem_of_mem_take h)
theorem Av.dp {K : Kf} {R b : Addr} {H : Hp} {y : V} (h : Av K R b H y) : ∃ d, Dp K (hide b H) y d := let ⟨d, h⟩ := h; ⟨d, h.ex hide_le⟩
theorem q_te {te : TE} {i : Nat} {tz : TS} {D : Ends} {σ : L2.St} {H : Hp} (h : te σ H fun x H1 => tz D (σ.set i (some x)) H1) : tSeq (tAsg te (gName i)) tz D σ H := h
theorem q_par {ta : TA} {i j : Nat} {tz : TS} {D : Ends} {σ : L2.St} {H : Hp} (h : ta σ H fun vs H1 => ∃ v w, vs = [v, w] ∧ tz D ((σ.set i (some v)).set j (some w)) H1) : tSeq (tPar i j ta) tz D σ H := h
def rowQ (p : Int × Int) : PyData := .list [.int p.1, .int p.2]
theorem shaped_rows (nw : List (Int × Int)) : SeqAt.shaped (.list (nw.map rowQ)) = true := by
  have h : PyData.canLayAll0 (nw.map rowQ) = true ∧ PyData.depthAll (nw.map rowQ) ≤ 1 := by
    induction nw with
    | nil => simp [PyData.canLayAll0, PyData.depthAll]
    | cons p nw ih =>
      have h2 := ih.2
      refine ⟨?_, ?_⟩
      · rw [List.map_cons]; simp only [PyData.canLayAll0, rowQ, PyData.canLay0, Bool.true_and, Bool.and_true]; exact ih.1
      · rw [List.map_cons]; simp only [PyData.depthAll, rowQ, PyData.depth]; omega
  unfold SeqAt.shaped
  simp [PyData.canLay0, h.1, PyData.depth]
  omega
theorem eqv_rows (nw : List (Int × Int)) : PyData.eqv (.list (nw.map rowQ)) (.list []) = nw.isEmpty := by
  cases nw with
  | nil => simp [PyData.eqv, PyData.eqvAll]
  | cons p nw => simp [PyData.eqv, PyData.eqvAll]
section
variable {P : Program} {w : World} {K : Kf} {mg : Str → Option Value} {base : Heap} {t1 t2 t3 : Addr} {c1 c2 c3 : FuncData}
abbrev sSpoil : Stmt := topS 39
def spSpoil (K : Kf) : Sp := fun vs H Q _ => ∃ (b : Addr) (v : V) (k : Nat) (nw : List (Int × Int)), vs = [.ref b, v, .int k] ∧ Box H b ∧ Dp K (hide b H) v (.tuple (nw.map newsP)) ∧ nw.length ≤ 9 ∧ 1 ≤ k ∧ k ≤ 4 ∧
  ∀ y H' d, Bx (oneB b) H H' → Dp K (hide b H') y d → Q y H'
abbrev nSpoil : List Str := ["_law_box_here", "_law_story", "_law_kinds", "_law_rows", "_law_bad", "_law_way", "_law_at", "_law_news"]
theorem scSpoil : FnScope nSpoil ["_law_box_here", "_law_story", "_law_kinds"] (defScope sSpoil) := ⟨rfl, rfl, rfl, by decide +kernel, rfl, by decide +kernel, by decide +kernel⟩
theorem ok_spoil {f : Addr} {fd : FuncData} (Dk : Dfn K mg "_law_spoilt" sSpoil ["_law_box_here", "_law_story", "_law_kinds"] f fd) (D : DDr K mg t1 t2 t3 c1 c2 c3) (B : Blt mg) : FnOk P w K mg base CX0 3 f fd ["_law_box_here", "_law_story", "_law_kinds"] (spSpoil K) := by
  refine Dk.F.ok scSpoil (fun vs H Q E h => ?_) (fun cdv A outer s H vs Q E hr h => ?_)
  · obtain ⟨b, v, k, nw, rfl, _⟩ := h
    rfl
  obtain ⟨b, v, k, nw, rfl, hb, hv, hn9, k1, k4, kQ⟩ := h
  have G := ok_take (P := P) (w := w) (base := base) D.take B
  have GP := ok_pick (P := P) (w := w) (base := base) D.pick D.take B
  have hr1 : Room 1 _ := hr.mono (by decide)
  have hu : _ := hr.units
  refine ⟨_, pss_cons (ps_setLc (i := 3) (own := [("_law_news", 7)]) rfl scSpoil.nd rfl rfl (sw_true rfl rfl rfl (by decide +kernel)) (pi_seq (pv 1)) (blkOk_by (by rfl)) (fun _ _ _ _ _ => pg_name (i := 7) scSpoil.nd rfl (Or.inl rfl)) (fun _ _ _ _ _ => pts_nil) (fun _ _ _ _ _ => pe_listB K rfl B (by rfl) (pv 7)))
    (pss_cons (ps_set (i := 4) scSpoil.nd rfl (.inl rfl) (pe_dfn GP D.pick hr (by rfl) (pa_cons (pv 0) (pa_cons (pe_lst (pa_cons pe_non (pa_cons pe_bl (pa_cons (pe_un un_neg pe_int) (pa_cons pe_int (pa_cons pe_str (pa_cons (pe_tup pa_nil) pa_nil))))))) pa_nil))))
    (pss_cons (ps_par (i := 5) (j := 6) rfl scSpoil.nd rfl rfl (by decide) rfl rfl (pa_cons (pe_dfn G D.take hr1 (by rfl) (pa_cons (pv 0) (pa_cons pe_int pa_nil))) (pa_cons (pe_dfn G D.take hr1 (by rfl) (pa_cons (pv 0) (pa_cons (pe_callB (call_max2 rfl) (by rfl) B.max bt_max (pa_cons (pe_len B (by rfl) (pv 3)) (pa_cons pe_int pa_nil))) pa_nil))) pa_nil)) (by rfl))
    (pss_cons (ps_if (pw_or (pt_cmpR (op_eqD hu) (pv 3) (pe_lst pa_nil) (nomark _)) (pw_or1 (pt_cmpR op_eq (pv 5) pe_int (nomark _)))).pt
      (pss_one (ps_expr (pe_bm PySem.F.plainAttrs_list PySem.F.slot_list_append PySem.F.type_list_append mt_append (pv 3) (pa_cons
        (pe_dfn GP D.pick hr (by rfl) (pa_cons (pv 0) (pa_cons (pe_lst (pa_cons (pv 4) (pa_cons (pe_tup (pa_cons pe_int pa_nil)) (pa_cons (pe_tup (pa_cons pe_int (pa_cons pe_int (pa_cons pe_int pa_nil)))) (pa_cons (pe_lst (pa_cons pe_int (pa_cons (pv 2) pa_nil))) (pa_cons (pe_tup (pa_cons (pv 4) (pa_cons pe_int pa_nil))) pa_nil)))))) pa_nil))) pa_nil))))
      (pss_one (ps_if (pt_cmpR op_lt (pv 5) pe_int (nomark _))
        (pss_one (ps_asg (pe_dfn GP D.pick hr (by rfl) (pa_cons (pv 0) (pa_cons (pe_lst (pa_cons (pv 4) (pa_cons (pe_ix ix_seq (pe_ix ix_seq (pv 3) (pe_dfn G D.take hr1 (by rfl) (pa_cons (pv 0) (pa_cons (pe_len B (by rfl) (pv 3)) pa_nil))) (fun _ _ => rfl)) pe_int (fun _ _ => rfl))
          (pa_cons (pe_dfn G D.take hr1 (by rfl) (pa_cons (pv 0) (pa_cons pe_int pa_nil))) (pa_cons (pe_dfn G D.take hr1 (by rfl) (pa_cons (pv 0) (pa_cons pe_int pa_nil))) pa_nil))))) pa_nil))) (pg_sub (pe_ix ix_seq (pv 3) (pv 6) (fun _ _ => rfl)) pe_int set_list)))
        (pss_one (ps_if (pt_cmpR op_lt (pv 5) pe_int (nomark _))
          (pss_one (ps_asg (pe_dfn GP D.pick hr (by rfl) (pa_cons (pv 0) (pa_cons (pe_lst (pa_cons (pv 4) (pa_cons (pv 2)
            (pa_cons (pe_dfn G D.take hr1 (by rfl) (pa_cons (pv 0) (pa_cons (pv 2) pa_nil))) (pa_cons (pe_dfn G D.take hr1 (by rfl) (pa_cons (pv 0) (pa_cons (pv 2) pa_nil))) pa_nil))))) pa_nil))) (pg_sub (pe_ix ix_seq (pv 3) (pv 6) (fun _ _ => rfl)) pe_int set_list)))
          (pss_one (ps_if (pt_cmpR op_eq (pv 5) pe_int (nomark _))
            (pss_one (ps_set (i := 3) scSpoil.nd rfl (.inl rfl) (pe_revL (pv 3))))
            (pss_one (ps_if (pt_cmpR op_eq (pv 5) pe_int (nomark _))
              (pss_one (ps_ret (pe_dfn GP D.pick hr (by rfl) (pa_cons (pv 0) (pa_cons (pe_lst (pa_cons pe_non (pa_cons pe_int (pa_cons pe_str (pa_cons
                (pe_lc (own := [("_law_at", 6)]) rfl scSpoil.nd (pi_range1 (by rfl) B.range (pa_cons pe_int pa_nil)) (blkOk_by (by rfl)) (fun _ _ _ _ _ => pg_name (i := 6) scSpoil.nd rfl (Or.inl rfl)) (fun _ _ _ _ _ => pts_nil) (fun _ _ _ _ _ => pe_lst (pa_cons (pv 6) (pa_cons pe_int pa_nil)))) pa_nil))))) pa_nil)))))
              (pss_one (ps_set (i := 3) scSpoil.nd rfl (.inl rfl) (pe_op op_cat (pe_op op_cat (pe_slice sl_list (pv 3) po_none (po_some (pv 6))) (pe_lst (pa_cons (pe_ix ix_seq (pv 3) (pe_un un_neg pe_int) (fun _ _ => rfl)) pa_nil))) (pe_slice sl_list (pv 3) (po_some (pv 6)) (po_some (pe_un un_neg pe_int)))))))))))))))
    (pss_one (ps_ret (pv 3)))))), ?_⟩
  have hHb : Ex (hide b H) H := hide_le
  obtain ⟨sa, sx, rfl, hsq, hsa⟩ := dp_seq hv (show seqD (.tuple (nw.map newsP)) = some (nw.map newsP) from rfl)
  have hsl : sx.length = nw.length := by rw [da_len hsa, List.length_map]
  -- rows
  refine q_te (lc_new (K := K) (tl := tVar 1) (σ := start nSpoil [.ref b, .ref sa, .int k]) (H := H) (j := 7) (vs := [7]) (te := tCB (rListS K) (tCons (tVar 7) tNil)) (es_of (ev_var rfl) (hsq.ex hHb)) (by omega) (fun x => rfl)
    (fun i G y => ∃ p, nw[i]? = some p ∧ ∃ r, y = .ref r ∧ G r = some (.lst [.int p.1, .int p.2]) ∧ H r = none) (fun i y G G' e ⟨p, h1, r, h2, h3, h4⟩ => ⟨p, h1, r, h2, e _ _ h3, h4⟩) (fun i x Dl H1 hx e1 hDn hDf Qn kn => by
      obtain ⟨d, hd1, hd2⟩ := da_get hsa hx
      rw [List.getElem?_map] at hd1
      obtain ⟨p, hp, rfl⟩ := Option.map_eq_some_iff.mp hd1
      obtain ⟨r0, us, rfl, hq0, hu0⟩ := dp_seq (hd2.ex (hHb.trans e1)) (show seqD (newsP p) = some [.int p.1, .int p.2] from rfl)
      have eu : us = [.int p.1, .int p.2] := da_intsInv (ns := [p.1, p.2]) hu0
      subst eu
      exact ⟨_, rfl, r0, _, rfl, hq0, fun l hl => kn _ _ (Ex.new hl) ⟨p, hp, l, rfl, hide_at upd_same (fun z => hDn (z ▸ hl)), fresh_back e1 hl⟩⟩) H (Ex.refl _) _ fun R H1 acc e1 hRf hR hal hP => ?_)
  rw [hsl] at hal
  have hRb : R ≠ b := ne_box hb hRf
  have bx1 : Bx (oneB b) H H1 := .of e1
  have hb1 := bx1.bo hb
  have hrow : ∀ y ∈ acc, RowL H R H1 y := acc_all fun i y e => by
    obtain ⟨p, h1, r, rfl, h3, h4⟩ := hP i y e
    have ne : r ≠ R := fun z => by unfold hide at h3; rw [if_pos z] at h3; cases h3
    exact ⟨r, _, _, rfl, hide_le _ _ h3, atm_int _, atm_int _, ne, h4⟩
  have hdat : DpAll K (hide b H1) acc (nw.map rowQ) := da_mk (by rw [hal, List.length_map]) fun i y d hy hd => by
    obtain ⟨p, h1, r, rfl, h3, h4⟩ := hP i y hy
    rw [List.getElem?_map, h1] at hd
    cases hd
    have ne : r ≠ R := fun z => by unfold hide at h3; rw [if_pos z] at h3; cases h3
    have h3' := hide_le _ _ h3
    exact .lst (sq_of (hide_at h3' (ne_box hb h4))) (da_ints [p.1, p.2])
  clear hP
  show tSeq _ _ _ [some (.ref b), some (.ref sa), some (.int k), some (.ref R), none, none, none, none] H1
  -- bad
  refine q_te ⟨_, rfl, 1, rfl, sz_of (by show 0 ≤ 100000; decide), fun pe hpe => ⟨sz_of (by show 6 ≤ 100000; decide), fun pl hpl => ?_⟩⟩
  have x2 : Ex H1 (upd (upd H1 pe (.tup [])) pl (.lst [.non, .bl true, .int (-1), .int 1000000, .str "0", .ref pe])) := (Ex.new hpe).trans (Ex.new hpl)
  refine ⟨b, pl, _, rfl, hb1.ex x2, ne_box (hb1.ex (Ex.new hpe)) hpl, upd_same, by show 0 < 6; decide, by show 6 ≤ 1000; decide, fun bad H2 hbad bx2 => ?_⟩
  have hbx : Box (upd (upd H1 pe (.tup [])) pl (.lst [.non, .bl true, .int (-1), .int 1000000, .str "0", .ref pe])) b := hb1.ex x2
  have abad : Atm H2 bad := by
    refine atm_keep hbx bx2 ?_
    simp at hbad
    rcases hbad with rfl | rfl | rfl | rfl | rfl | rfl
    · exact .inl ⟨.none, fun _ _ => .non⟩
    · exact .inl ⟨.bool true, fun _ _ => .bl true⟩
    · exact atm_int _
    · exact atm_int _
    · exact .inl ⟨.str "0", fun _ _ => .str _⟩
    · exact .inr ⟨pe, rfl, Ex.new hpl _ _ upd_same⟩
  have bx12 : Bx (oneB b) H1 H2 := (Bx.of x2).trans bx2
  clear hbad bx2 hbx
  show tSeq _ _ _ [some (.ref b), some (.ref sa), some (.int k), some (.ref R), some bad, none, none, none] H2
  have hb2 := bx12.bo hb1
  have hR2 : H2 R = some (.lst acc) := bx12.keep R _ hRb hR
  -- way, at
  refine q_par ⟨_, rfl, b, 9, rfl, hb2, by decide, by decide, fun way H3 _ _ bx3 => ⟨_, rfl, _, rfl, R, acc, rfl, .inl (sq_of (bx3.keep R _ hRb hR2)), (acc.length : Int), 1, rfl, b, _, rfl, bx3.bo hb2, by split <;> omega, by split <;> omega, fun at_ H4 a0 a1 bx4 => ⟨_, _, rfl, ?_⟩⟩⟩
  have bx24 := bx3.trans bx4
  have bx14 := bx12.trans bx24
  have bxH4 := bx1.trans bx14
  have hb4 := bx14.bo hb1
  have hR4 : H4 R = some (.lst acc) := bx14.keep R _ hRb hR
  have hrow4 : ∀ y ∈ acc, RowL H R H4 y := fun y hy => rowL_bx hb1 bx14 (hrow y hy)
  have abad4 : Atm H4 bad := atm_keep hb2 bx24 abad
  have hdat4 : DpAll K H4 acc (nw.map rowQ) := (hdat.ex (hide_bx bx14)).ex hide_le
  clear bx24 bx3 bx4
  show tSeq _ _ _ [some (.ref b), some (.ref sa), some (.int k), some (.ref R), some bad, some (.int way), some (.int at_), none] H4
  have fin : ∀ {R' : Addr} {H' : Hp} {σ' : L2.St} {ys : List V}, Bx (oneB b) H H' → H' R' = some (.lst ys) → R' ≠ b → (∀ y ∈ ys, ∃ d, Dp K (hide b H') y d) → σ'[3]? = some (some (.ref R')) → tRet (tVar 3) { nx := fun _ H' => Q .non H', rt := Q } σ' H' := fun {R' H' σ' ys} bx hR' hn hy h3 => by
    obtain ⟨d, hd⟩ := dp_list hn hR' hy
    exact ⟨_, h3, kQ _ _ d bx hd⟩
  have rows_dp : ∀ {H' : Hp}, Box H' b → H' R = some (.lst acc) → (∀ y ∈ acc, RowL H R H' y) → ∀ y ∈ acc, ∃ d, Dp K (hide b H') y d := fun {H'} hb' hR' hr' y hy => (rowL_av hb' hR' (hr' y hy)).dp
  have tst : EvT _ [some (.ref b), some (.ref sa), some (.int k), some (.ref R), some bad, some (.int way), some (.int at_), none] H4 _ := et_or (et_test (ev_opL (r := rEqD K) (ev_var (i := 3) rfl) (el_lst (ta := tNil) ea_nil (by show 0 ≤ 100000; decide)) fun p H5 hp e5 => fun H6 e6 Q6 q6 =>
    ⟨.list (nw.map rowQ), .list [], .lst (sq_of ((e5.trans e6) _ _ hR4)) (hdat4.ex (e5.trans e6)), .lst (sq_of (e6 _ _ hp)) .nil, shaped_rows nw, shaped_nil, q6 H6 (Ex.refl _)⟩)) fun _ => et_test (ev_eqI (ev_var (i := 5) (v := .int way) rfl) (ev_c (v := .int 0)))
  rw [eqv_rows] at tst
  refine q_if tst (fun _ H5 e5 => ?_) (fun hne H5 e5 => ?_)
  · -- rows.append(..)
    have bxH5 := bx_ex bxH4 e5
    have hb5 := hb4.ex e5
    have hR5 := e5 _ _ hR4
    have hrow5 : ∀ y ∈ acc, RowL H R H5 y := fun y hy => rowL_ex e5 (hrow4 y hy)
    have abad5 := atm_ex e5 abad4
    refine ⟨_, rfl, .inl ⟨rfl, _, sq_of hR5⟩, _, rfl, _, rfl, sz_of (by show 1 ≤ 100000; decide), fun p1 hp1 => ⟨sz_of (by show 3 ≤ 100000; decide), fun p2 hp2 => ⟨_, rfl, sz_of (by show 2 ≤ 100000; decide), fun p3 hp3 => ⟨_, rfl, sz_of (by show 2 ≤ 100000; decide), fun p4 hp4 => ⟨sz_of (by show 5 ≤ 100000; decide), fun pl hpl => ?_⟩⟩⟩⟩⟩
    generalize hG1 : upd H5 p1 (.tup [.int 0]) = G1 at hp2 hp3 hp4 hpl ⊢
    have f1 : G1 p1 = some (.tup [.int 0]) := by rw [← hG1]; exact upd_same
    have y1 : Ex H5 G1 := by rw [← hG1]; exact Ex.new hp1
    generalize hG2 : upd G1 p2 (.tup [.int 0, .int 0, .int 0]) = G2 at hp3 hp4 hpl ⊢
    have f2 : G2 p2 = some (.tup [.int 0, .int 0, .int 0]) := by rw [← hG2]; exact upd_same
    have y2 : Ex G1 G2 := by rw [← hG2]; exact Ex.new hp2
    generalize hG3 : upd G2 p3 (.lst [.int 0, .int k]) = G3 at hp4 hpl ⊢
    have f3 : G3 p3 = some (.lst [.int 0, .int k]) := by rw [← hG3]; exact upd_same
    have y3 : Ex G2 G3 := by rw [← hG3]; exact Ex.new hp3
    generalize hG4 : upd G3 p4 (.tup [bad, .int 0]) = G4 at hpl ⊢
    have f4 : G4 p4 = some (.tup [bad, .int 0]) := by rw [← hG4]; exact upd_same
    have y4 : Ex G3 G4 := by rw [← hG4]; exact Ex.new hp4
    generalize hG5 : upd G4 pl (.lst [bad, .ref p1, .ref p2, .ref p3, .ref p4]) = G5
    have f5 : G5 pl = some (.lst [bad, .ref p1, .ref p2, .ref p3, .ref p4]) := by rw [← hG5]; exact upd_same
    have y5 : Ex G4 G5 := by rw [← hG5]; exact Ex.new hpl
    clear hG1 hG2 hG3 hG4 hG5
    have y12 := y1.trans y2
    have y13 := y12.trans y3
    have y14 := y13.trans y4
    have y15 := y14.trans y5
    have g1 := fresh_back y1 hp2
    have g2 := fresh_back y12 hp3
    have g3 := fresh_back y13 hp4
    have hbG5 := hb5.ex y15
    refine ⟨b, pl, _, rfl, hbG5, ne_box (hb5.ex y14) hpl, f5, by show 0 < 5; decide, by show 5 ≤ 1000; decide, fun x H6 hx bx6 => ?_⟩
    have bxH6 := (bx_ex bxH5 y15).trans bx6
    have hb6 := bx6.bo hbG5
    have hR6 : H6 R = some (.lst acc) := bx6.keep R _ hRb (y15 _ _ hR5)
    have hrow6 : ∀ y ∈ acc, RowL H R H6 y := fun y hy => rowL_bx hbG5 bx6 (rowL_ex y15 (hrow5 y hy))
    have abad6 : Atm H6 bad := atm_keep hbG5 bx6 (atm_ex y15 abad5)
    have neR : ∀ {p}, H5 p = none → p ≠ R := fun {p} hp z => by rw [z, hR5] at hp; cases hp
    have at6 : ∀ {p o}, H5 p = none → G5 p = some o → (hide R (hide b H6)) p = some o := fun {p o} hp ho => hide_at (hide_at (bx6.keep p _ (ne_box hb5 hp) ho) (ne_box hb5 hp)) (neR hp)
    have avx : Av K R b H6 x := by
      have atm_av : ∀ {u}, Atm H6 u → ∃ d, Dp K (hide R (hide b H6)) u d := fun {u} a => atm_dp a fun e _ he => hide_at (hide_at he (fun z => by
        obtain ⟨x, y, w, q⟩ := hb6; rw [z, q] at he; cases he)) (fun z => by rw [z, hR6] at he; cases he)
      simp at hx
      rcases hx with rfl | rfl | rfl | rfl | rfl
      · exact atm_av abad6
      · exact ⟨_, .tup (st_of (at6 hp1 ((y2.trans (y3.trans (y4.trans y5))) _ _ f1))) (da_ints [0])⟩
      · exact ⟨_, .tup (st_of (at6 g1 ((y3.trans (y4.trans y5)) _ _ f2))) (da_ints [0, 0, 0])⟩
      · exact ⟨_, .lst (sq_of (at6 g2 ((y4.trans y5) _ _ f3))) (da_ints [0, (k : Int)])⟩
      · obtain ⟨d, hd⟩ := atm_av abad6
        exact ⟨_, .tup (st_of (at6 g3 (y5 _ _ f4))) (.cons hd (.cons (.int 0) .nil))⟩
    refine ⟨R, acc, x, rfl, rfl, hR6, sz_lt (by rw [hal]; omega), ?_⟩
    refine fin (bx_upd bxH6 hb hRf) upd_same hRb (fun y hy => ?_) rfl
    have avy : Av K R b H6 y := by
      rcases List.mem_append.mp hy with h | h
      · exact rowL_av hb6 hR6 (hrow6 y h)
      · simp at h; rw [h]; exact avx
    obtain ⟨d, hd⟩ := avy
    exact ⟨d, hd.ex (hide_swap hRb)⟩
  · have bxH5 := bx_ex bxH4 e5
    have hb5 := hb4.ex e5
    have hR5 := e5 _ _ hR4
    have hrow5 : ∀ y ∈ acc, RowL H R H5 y := fun y hy => rowL_ex e5 (hrow4 y hy)
    have abad5 := atm_ex e5 abad4
    clear hrow4 abad4 hdat4 hrow abad hdat tst
    have hn0 : nw.isEmpty = false := by cases h : nw.isEmpty <;> simp_all
    have hl0 : 0 < acc.length := by rw [hal]; cases nw with
      | nil => cases hn0
      | cons p r => simp
    have hat : 0 ≤ at_ ∧ at_ < (acc.length : Int) := ⟨a0, by split at a1 <;> omega⟩
    have nth : ∀ (i : Int), 0 ≤ i → i < (acc.length : Int) → ∃ y ∈ acc, atI acc i = some y := fun i h0 h1 => by
      have hlt : i.toNat < acc.length := by omega
      refine ⟨acc[i.toNat], List.getElem_mem hlt, ?_⟩
      have e : i = ((i.toNat : Nat) : Int) := by omega
      conv => lhs; rw [e]
      exact atI_nat (List.getElem?_eq_getElem hlt)
    obtain ⟨ya, hya, hyat⟩ := nth at_ hat.1 hat.2
    refine s_if (b := decide (way < 4)) (et_test (ev_ltI (ev_var rfl) ev_c)) (fun _ H6 e6 => ?_) (fun _ H6 e6 => ?_)
    · -- rows[at][0] = ..
      have hb6 := hb5.ex e6
      have hR6 := e6 _ _ hR5
      have hrow6 : ∀ y ∈ acc, RowL H R H6 y := fun y hy => rowL_ex e6 (hrow5 y hy)
      refine ⟨_, rfl, _, rfl, _, rfl, _, rfl, _, rfl, R, acc, rfl, .inl (sq_of hR6), b, _, rfl, hb6, by omega, by rw [hal]; omega, fun i1 H7 i10 i11 bx7 => ?_⟩
      obtain ⟨y1, hy1, hy1at⟩ := nth i1 i10 i11
      have hb7 := bx7.bo hb6
      have hR7 : H7 R = some (.lst acc) := bx7.keep R _ hRb hR6
      obtain ⟨r1, u1, v1, rfl, hr1, hu1, hv1, _⟩ := rowL_bx hb6 bx7 (hrow6 y1 hy1)
      refine .inl ⟨R, acc, i1, _, rfl, rfl, sq_of hR7, hy1at, .inl ⟨r1, _, 0, u1, rfl, rfl, sq_of hr1, rfl, _, rfl, b, 30, rfl, hb7, by decide, by decide, fun q1 H8 _ _ bx8 => ⟨_, rfl, b, 30, rfl, bx8.bo hb7, by decide, by decide, fun q2 H9 _ _ bx9 => ⟨sz_of (by show 4 ≤ 100000; decide), fun pl hpl => ?_⟩⟩⟩⟩
      have bx79 := bx8.trans bx9
      have hb9 := bx79.bo hb7
      have eA : Ex H9 (upd H9 pl (.lst [bad, u1, .int q1, .int q2])) := Ex.new hpl
      refine ⟨b, pl, _, rfl, hb9.ex eA, ne_box hb9 hpl, upd_same, by show 0 < 4; decide, by show 4 ≤ 1000; decide, fun x HB hx bxB => ?_⟩
      have bx6B : Bx (oneB b) H6 HB := (bx7.trans (bx_ex bx79 eA)).trans bxB
      have ax : Atm HB x := by
        simp at hx
        rcases hx with rfl | rfl | rfl | rfl
        · exact atm_keep hb6 bx6B (atm_ex e6 abad5)
        · exact atm_keep hb7 ((bx_ex bx79 eA).trans bxB) hu1
        · exact atm_int _
        · exact atm_int _
      have hbB := bx6B.bo hb6
      have hRB : HB R = some (.lst acc) := bx6B.keep R _ hRb hR6
      have hrowB : ∀ y ∈ acc, RowL H R HB y := fun y hy => rowL_bx hb6 bx6B (hrow6 y hy)
      obtain ⟨r2, u2, v2, rfl, hr2, hu2, hv2, hn2, hz2⟩ := hrowB ya hya
      refine ⟨_, rfl, _, rfl, .inl ⟨R, acc, at_, _, rfl, rfl, sq_of hRB, hyat, r2, _, 0, 0, rfl, rfl, hr2, rfl, ?_⟩⟩
      have hRC : (upd HB r2 (.lst [x, v2])) R = some (.lst acc) := by rw [upd_ne hn2.symm]; exact hRB
      have bxC := bx_upd (o := .lst [x, v2]) ((bx_ex bxH5 e6).trans bx6B) hb hz2
      exact fin bxC hRC hRb (rows_dp (bxC.bo hb) hRC fun y hy => rowL_mut hr2 ax hv2 (hrowB y hy)) rfl
    · refine s_if (b := decide (way < 6)) (et_test (ev_ltI (ev_var rfl) ev_c)) (fun _ H7 e7 => ?_) (fun _ H7 e7 => ?_)
      · -- rows[at][1] = ..
        have e57 := e6.trans e7
        have hb7 := hb5.ex e57
        have hR7 := e57 _ _ hR5
        have hrow7 : ∀ y ∈ acc, RowL H R H7 y := fun y hy => rowL_ex e57 (hrow5 y hy)
        refine ⟨_, rfl, _, rfl, _, rfl, _, rfl, _, rfl, b, k, rfl, hb7, by omega, by omega, fun q1 H8 _ _ bx8 => ⟨_, rfl, _, rfl, b, k, rfl, bx8.bo hb7, by omega, by omega, fun q2 H9 _ _ bx9 => ⟨sz_of (by show 4 ≤ 100000; decide), fun pl hpl => ?_⟩⟩⟩
        have bx79 := bx8.trans bx9
        have hb9 := bx79.bo hb7
        have eA : Ex H9 (upd H9 pl (.lst [bad, .int k, .int q1, .int q2])) := Ex.new hpl
        refine ⟨b, pl, _, rfl, hb9.ex eA, ne_box hb9 hpl, upd_same, by show 0 < 4; decide, by show 4 ≤ 1000; decide, fun x HB hx bxB => ?_⟩
        have bx7B : Bx (oneB b) H7 HB := (bx_ex bx79 eA).trans bxB
        have ax : Atm HB x := by
          simp at hx
          rcases hx with rfl | rfl | rfl | rfl
          · exact atm_keep hb7 bx7B (atm_ex e57 abad5)
          · exact atm_int _
          · exact atm_int _
          · exact atm_int _
        have hbB := bx7B.bo hb7
        have hRB : HB R = some (.lst acc) := bx7B.keep R _ hRb hR7
        have hrowB : ∀ y ∈ acc, RowL H R HB y := fun y hy => rowL_bx hb7 bx7B (hrow7 y hy)
        obtain ⟨r2, u2, v2, rfl, hr2, hu2, hv2, hn2, hz2⟩ := hrowB ya hya
        refine ⟨_, rfl, _, rfl, .inl ⟨R, acc, at_, _, rfl, rfl, sq_of hRB, hyat, r2, _, 1, 1, rfl, rfl, hr2, rfl, ?_⟩⟩
        have hRC : (upd HB r2 (.lst [u2, x])) R = some (.lst acc) := by rw [upd_ne hn2.symm]; exact hRB
        have bxC := bx_upd (o := .lst [u2, x]) ((bx_ex bxH5 e57).trans bx7B) hb hz2
        exact fin bxC hRC hRb (rows_dp (bxC.bo hb) hRC fun y hy => rowL_mut hr2 hu2 ax (hrowB y hy)) rfl
      · refine s_if (b := decide (way = 6)) (et_test (ev_eqI (ev_var rfl) ev_c)) (fun _ H8 e8 => ?_) (fun _ H8 e8 => ?_)
        · have e58 := (e6.trans e7).trans e8
          have hR8 := e58 _ _ hR5
          refine ⟨_, rfl, R, acc, rfl, sq_of hR8, fun p hp => ?_⟩
          have bx8 := bx_ex bxH5 e58
          have hpf := bx_free bx8 hb hp
          have bx9 := bx_upd (o := .lst acc.reverse) bx8 hb hpf
          refine fin bx9 upd_same (ne_box hb hpf) (fun y hy => ?_) rfl
          exact rows_dp (bx9.bo hb) (Ex.new hp _ _ hR8) (fun z hz => rowL_ex (e58.trans (Ex.new hp)) (hrow5 z hz)) y (List.mem_reverse.mp hy)
        · refine s_if (b := decide (way = 7)) (et_test (ev_eqI (ev_var rfl) ev_c)) (fun _ H9 e9 => ?_) (fun _ H9 e9 => ?_)
          · have e59 := ((e6.trans e7).trans e8).trans e9
            have bx9 := bx_ex bxH5 e59
            have hb9 := bx9.bo hb
            refine ⟨_, rfl, 401, rfl, by decide, by decide, fun Dl hD => lc_gen walk_range noB (fun c hc => hc.elim) (fun i G y => ∃ r, y = .ref r ∧ G r = some (.lst [.int (0 + (i : Int)), .int 0]) ∧ r ≠ b) (fun i y A C hk ⟨r, h1, h2, h3⟩ => ⟨r, h1, hk r _ (fun z => z) h2, h3⟩) (by decide) hD (fun _ _ => trivial) (fun i x HA' HA hi bA hDn y Qn kn => ?_) (fun HA acc2 bA hDA hlA hPA => ⟨sz_of (by show 4 ≤ 100000; decide), fun pl hpl => ?_⟩)⟩
            · obtain ⟨rfl, rfl⟩ := y
              refine ⟨rfl, _, rfl, sz_of (by show 2 ≤ 100000; decide), fun r hr => kn _ _ (.of (Ex.new hr)) ⟨r, rfl, hide_at upd_same (fun z => hDn (z ▸ hr)), ne_box (hb9.ex bA.ex) hr⟩⟩
            · have eA := bA.ex
              have hDf : H Dl = none := bx_free bx9 hb hD
              have eB : Ex HA (upd HA pl (.lst [.non, .int 5, .str "ab", .ref Dl])) := Ex.new hpl
              have e9B := eA.trans eB
              have hbB := hb9.ex e9B
              refine ⟨b, pl, _, rfl, hbB, ne_box (hb9.ex eA) hpl, upd_same, by show 0 < 4; decide, by show 4 ≤ 1000; decide, fun x HC hx bxC => ?_⟩
              have bxHC := (bx_ex bx9 e9B).trans bxC
              simp at hx
              rcases hx with rfl | rfl | rfl | rfl
              · exact kQ _ _ .none bxHC .non
              · exact kQ _ _ (.int 5) bxHC (.int 5)
              · exact kQ _ _ (.str "ab") bxHC (.str _)
              · obtain ⟨d, hd⟩ := dp_list (K := K) (H := HC) (ys := acc2) (ne_box hb hDf) (bxC.keep Dl _ (ne_box hb hDf) (eB _ _ hDA)) (acc_all fun i y e => by
                  obtain ⟨r, rfl, h2, h3⟩ := hPA i y e
                  exact ⟨_, .lst (sq_of (hide_at (bxC.keep r _ h3 (eB _ _ (hide_le _ _ h2))) h3)) (da_ints [0 + (i : Int), 0])⟩)
                exact kQ _ _ d bxHC hd
          · have e59 := ((e6.trans e7).trans e8).trans e9
            have hR9 := e59 _ _ hR5
            obtain ⟨z, zs, hz⟩ : ∃ z zs, acc = zs ++ [z] := ⟨acc.getLast (by intro h; rw [h] at hl0; simp at hl0), acc.dropLast, (List.dropLast_concat_getLast _).symm⟩
            have hcl := cutV_length acc none (some at_)
            have hcl2 := cutV_length acc (some at_) (some (-1))
            have hacc9 : acc.length ≤ 9 := by omega
            refine s_asgL (xs := (cutV acc none (some at_) ++ [z]) ++ cutV acc (some at_) (some (-1))) (el_cat (el_cat (el_sl (K := K) (a := R) (xs := acc) (ev_var rfl) eo_none (eo_some (ev_var rfl)) (sq_of hR9)) (el_lst (ea_cons (ev_ixS (K := K) (a := R) (xs := acc) (i := -1) (ev_var rfl) (ev_neg (i := 1)) (.inl (sq_of hR9)) (by rw [hz]; exact atI_last zs z)) ea_nil) (by show 1 ≤ 100000; decide)) (by show _ + 1 ≤ _; omega))
              (el_sl (K := K) (a := R) (xs := acc) (ev_var rfl) (eo_some (ev_var rfl)) (eo_some (ev_neg (i := 1))) (sq_of hR9)) (by rw [List.length_append]; show _ + 1 + _ ≤ _; omega)) fun p HA hp eA hpA => ?_
            have bxA := bx_ex (bx_ex bxH5 e59) eA
            have hpf := bx_free (bx_ex bxH5 e59) hb hp
            refine fin bxA hpA (ne_box hb hpf) (fun y hy => ?_) rfl
            refine rows_dp (bxA.bo hb) (eA _ _ hR9) (fun q hq => rowL_ex (e59.trans eA) (hrow5 q hq)) y ?_
            rcases List.mem_append.mp hy with h | h
            · rcases List.mem_append.mp h with h | h
              · exact cut_mem h
              · simp at h; rw [h, hz]; simp
            · exact cut_mem h
end
end Fw
/-! _law_error -/
namespace Fw
open PySem PySem.Spec PyProof.Rows L2 Evl LamX
/-- which class stands for which error -/
structure ErsX (K : Kf) (CM CL CS : Addr) : Prop where
  mm : PySem.W.exmOne K (.ref CM) (.ref CM) = some true
  lm : PySem.W.exmOne K (.ref CL) (.ref CM) = some false
  ll : PySem.W.exmOne K (.ref CL) (.ref CL) = some true
  sm : PySem.W.exmOne K (.ref CS) (.ref CM) = some false
  sl : PySem.W.exmOne K (.ref CS) (.ref CL) = some false
  ss : PySem.W.exmOne K (.ref CS) (.ref CS) = some true
def tWorkS (P : Program) (w : World) (K : Kf) (mg : Str → Option Value) (B : Heap) (k i : Nat) (E : L2.St → XK) : TE := fun σ H Q => ∃ (f : Addr) (F : Lm), σ[i]? = some (some (.ref f)) ∧ H f = some (LamO f F) ∧ Work P w K mg B k f H Q (E σ)
theorem pe_workS {X : Cx} {k i : Nat} {x : Str} {p1 p2 : Pos} {E : L2.St → XK} (hN : X.N[i]? = some x) (hv : Vis X.env.scope x) (hr : Room k X.A) (hx : ∀ σ, PassesAt (L2.CX X.prog X.w) X σ (E σ)) (hd : (x == ("__debug__" : Str)) = false := by decide) (hcd : (x == ("__classdict__" : Str)) = false := by decide) :
    PE X (.Call (.Name x p1) [] [] p2) (tWorkS X.prog X.w X.K X.mg X.base k i E) := by
  refine ⟨fun pins s σ H Q I h => ?_⟩
  obtain ⟨f, F, hs, hf, hw⟩ := h
  refine wpAny_Call_Name_kw (thn ((pe_var (pos := p1) (i := i) hN hv hd hcd).run pins s σ H (fun v H1 => v = .ref f ∧ H1 = H) I ⟨.ref f, hs, rfl, rfl⟩) fun u s1 ⟨v, H1, I1, r1, ev, eH⟩ => ?_)
  subst ev
  rw [eH] at I1
  obtain rfl : u = Value.ref f := r1
  obtain ⟨pm, ctv, ho⟩ := lamO_at I1.hok hf
  refine PySem.W.callWith_F0 ⟨_, _, _, _, ho⟩ (wpAny_call (codeAny_mono (hw X.A X.stack s1 hr I1.env0) fun r s' hq => ?_))
  cases r with
  | error e => exact hx σ pins H s1 e s' I1 hq
  | ok fl =>
    cases fl with
    | ret u => exact I1.after hq
    | next => exact False.elim hq
    | brk => exact False.elim hq
    | cont => exact False.elim hq
theorem bxS_free {S : Addr → Prop} {H H' : Hp} {p : Addr} (h : Bx S H H') (hS : ∀ b, S b → Box H b) (hp : H' p = none) : H p = none ∧ ¬ S p := by
  have nS : ¬ S p := fun z => by
    obtain ⟨x, y, w, q⟩ := h.box p z (hS p z)
    rw [hp] at q; cases q
  refine ⟨?_, nS⟩
  cases e : H p with
  | none => rfl
  | some o => rw [h.keep p o nS e] at hp; cases hp
theorem bxS_upd {S : Addr → Prop} {H H' : Hp} {p : Addr} {o : HO} (h : Bx S H H') (hS : ∀ b, S b → Box H b) (hp : H' p = none) : Bx S H (upd H' p o) :=
  h.trans (.of (Ex.new hp))
/-- an error's name as the law tells it -/
def ErrNm (CM CL CS : Addr) (C : Addr) (nm : Str) : Prop := (C = CM ∧ nm = "machine") ∨ (C = CL ∧ nm = "lateness") ∨ (C = CS ∧ nm = "story")
/-- how a work ends: without an error, or with one of the class at C that tells i -/
def Ends1 (P : Program) (w : World) (K : Kf) (mg : Str → Option Value) (B : Heap) (k : Nat) (f : Addr) (H : Hp) (S : Addr → Prop) (o : Option (Addr × Int)) : Prop :=
  ∀ (Qw : VK) (Ew : XK), (o = none → ∀ v H', Bx S H H' → Qw v H') → (∀ C i, o = some (C, i) → ∀ d H', Bx S H H' → H' d = some (.xd [("at", .int i)]) → Ew (.ref C) (some d) H') → Work P w K mg B k f H Qw Ew
section
variable {P : Program} {w : World} {K : Kf} {mg : Str → Option Value} {CM CL CS iM iL iS : Addr}
abbrev sErr : Stmt := topS 40
def spErr (P : Program) (w : World) (K : Kf) (mg : Str → Option Value) (CM CL CS : Addr) (k : Nat) (B : Heap) : Sp := fun vs H Q _ => ∃ (f : Addr) (F : Lm) (S : Addr → Prop) (o : Option (Addr × Int)), vs = [.ref f] ∧ H f = some (LamO f F) ∧ (∀ b, S b → Box H b) ∧ Ends1 P w K mg B k f H S o ∧
  (o = none → ∀ H', Bx S H H' → Q .non H') ∧ (∀ C i, o = some (C, i) → ∃ nm, ErrNm CM CL CS C nm ∧ ∀ p H', Bx S H H' → H p = none → ¬ S p → H' p = some (.tup [.str nm, .int i]) → Q (.ref p) H')
theorem scErr : FnScope ["_law_work", "e"] ["_law_work"] (defScope sErr) := ⟨rfl, rfl, rfl, by decide +kernel, rfl, by decide +kernel, by decide +kernel⟩
theorem xfc_of {C fI : Addr} (T : AtTxt P K mg C fI) : XfC K C := ⟨T.ga, T.gg, T.exC, T.hdC⟩
theorem ok_err {base : Heap} {f : Addr} {fd : FuncData} {k : Nat} (D : Dfn K mg "_law_error" sErr ["_law_work"] f fd) (T : Ers P K mg CM CL CS iM iL iS) (X : ErsX K CM CL CS) : FnOk P w K mg base CX0 (k + 1) f fd ["_law_work"] (spErr P w K mg CM CL CS k base) := by
  refine D.F.ok scErr (fun vs H Q E h => ?_) (fun cdv A outer s H vs Q E hr h => ?_)
  · obtain ⟨g, F, S, o, rfl, _⟩ := h
    rfl
  obtain ⟨g, F, S, o, rfl, hg, hS, hE, hn, hs⟩ := h
  refine ⟨_, pss_cons (ps_try_all (i := 1) (n := "e") (tb := fun W => tDrop (tWorkS P w K mg base k 0 (WE W))) rfl rfl scErr.nd rfl rfl
      (fun W pn xe tk _ => pss_one (ps_expr (pe_workS (k := k) (i := 0) rfl (Or.inl rfl) hr (fun σ => passAt tk σ))))
      (.cons (c := .ref CM) (ts := fun a cls d => tRet (tTup (tCons (tC (.str "machine")) (tCons (tXf a cls d CM "at" (tVar 1)) tNil)))) ⟨by rfl, by decide, .inl T.gM⟩ (fun a oe cls d pn hz hf => pss_one (ps_ret (pe_tup (pa_cons pe_str (pa_cons (pe_xf (xfc_of T.tM) T.tM.noN hz hf (pv 1)) pa_nil)))))
      (.cons (c := .ref CL) (ts := fun a cls d => tRet (tTup (tCons (tC (.str "lateness")) (tCons (tXf a cls d CL "at" (tVar 1)) tNil)))) ⟨by rfl, by decide, .inl T.gL⟩ (fun a oe cls d pn hz hf => pss_one (ps_ret (pe_tup (pa_cons pe_str (pa_cons (pe_xf (xfc_of T.tL) T.tL.noN hz hf (pv 1)) pa_nil)))))
      (.cons (c := .ref CS) (ts := fun a cls d => tRet (tTup (tCons (tC (.str "story")) (tCons (tXf a cls d CS "at" (tVar 1)) tNil)))) ⟨by rfl, by decide, .inl T.gS⟩ (fun a oe cls d pn hz hf => pss_one (ps_ret (pe_tup (pa_cons pe_str (pa_cons (pe_xf (xfc_of T.tS) T.tS.noN hz hf (pv 1)) pa_nil)))))
      .nil))))
    (pss_one (ps_ret pe_non)), ?_⟩
  refine ⟨g, F, rfl, hg, hE _ _ (fun ho v H' bx => hn ho H' bx) fun C i ho d H' bx hd => ?_⟩
  obtain ⟨nm, hnm, hq⟩ := hs C i ho
  have fin : ∀ (p : Addr), H' p = none → Q (.ref p) (upd H' p (.tup [.str nm, .int i])) := fun p hp => hq p _ (bxS_upd bx hS hp) (bxS_free bx hS hp).1 (bxS_free bx hS hp).2 upd_same
  rcases hnm with ⟨rfl, rfl⟩ | ⟨rfl, rfl⟩ | ⟨rfl, rfl⟩
  · exact ⟨true, X.mm, fun _ a ha => ⟨_, rfl, rfl, rfl, d, _, .int i, rfl, hd, rfl, sz_of (by show 2 ≤ 100000; decide), fun p hp => fin p hp⟩, fun z => nomatch z⟩
  · exact ⟨false, X.lm, (fun z => nomatch z), fun _ => ⟨true, X.ll, fun _ a ha => ⟨_, rfl, rfl, rfl, d, _, .int i, rfl, hd, rfl, sz_of (by show 2 ≤ 100000; decide), fun p hp => fin p hp⟩, fun z => nomatch z⟩⟩
  · exact ⟨false, X.sm, (fun z => nomatch z), fun _ => ⟨false, X.sl, (fun z => nomatch z), fun _ => ⟨true, X.ss, fun _ a ha => ⟨_, rfl, rfl, rfl, d, _, .int i, rfl, hd, rfl, sz_of (by show 2 ≤ 100000; decide), fun p hp => fin p hp⟩, fun z => nomatch z⟩⟩⟩
end
end Fw
/-! law: its frame, its steps -/
namespace Fw
open PySem PySem.Spec PyProof.Rows L2 Evl LamX
/-! ### the cells of a frame -/
theorem cells_low : ∀ {names : List (Str × NameKind)} {n : Nat} {acc : List (Str × Addr)} {p : Str × Addr}, p ∈ cellsFrom n names acc → p ∈ acc ∨ n ≤ p.2
  | [], _, _, _, h => .inl h
  | (x, k) :: r, n, acc, p, h => by
    unfold cellsFrom at h
    split at h
    · rcases cells_low h with h1 | h1
      · rcases List.mem_cons.mp h1 with e | e
        · rw [e]; exact .inr (Nat.le_refl _)
        · exact .inl e
      · exact .inr (Nat.le_of_succ_le h1)
    · exact cells_low h
theorem cells_one : ∀ {names : List (Str × NameKind)} {n : Nat} {acc : List (Str × Addr)}, (∀ p ∈ acc, p.2 < n) → (∀ p ∈ acc, ∀ q ∈ acc, p.2 = q.2 → p.1 = q.1) → ∀ p ∈ cellsFrom n names acc, ∀ q ∈ cellsFrom n names acc, p.2 = q.2 → p.1 = q.1
  | [], _, _, _, h => h
  | (x, k) :: r, n, acc, hl, h => by
    unfold cellsFrom
    split
    · refine cells_one (fun p hp => ?_) fun p hp q hq e => ?_
      · rcases List.mem_cons.mp hp with z | z
        · rw [z]; exact Nat.lt_succ_self _
        · exact Nat.lt_succ_of_lt (hl p z)
      · rcases List.mem_cons.mp hp with z | z <;> rcases List.mem_cons.mp hq with z2 | z2
        · rw [z, z2]
        · have h2 := hl q z2; rw [z] at e; have e' : n = q.2 := e; exact absurd h2 (by rw [e']; exact Nat.lt_irrefl _)
        · have h2 := hl p z; rw [z2] at e; have e' : p.2 = n := e; exact absurd h2 (by rw [e']; exact Nat.lt_irrefl _)
        · exact h p z q z2 e
    · exact cells_one hl h
theorem cells_plain : ∀ {names : List (Str × NameKind)} {n : Nat} {acc : List (Str × Addr)}, (names.map (·.1)).Nodup → (∀ p ∈ acc, p.1 ∉ names.map (·.1)) → (∀ q ∈ acc, acc.lookup q.1 = some q.2) → ∀ q ∈ cellsFrom n names acc, (cellsFrom n names acc).lookup q.1 = some q.2
  | [], _, _, _, _, h => h
  | (x, k) :: r, n, acc, nd, ha, h => by
    rw [List.map_cons, List.nodup_cons] at nd
    unfold cellsFrom
    split
    · refine cells_plain nd.2 (fun p hp => ?_) fun q hq => ?_
      · rcases List.mem_cons.mp hp with z | z
        · rw [z]; exact nd.1
        · exact fun z2 => ha p z (by rw [List.map_cons]; exact List.mem_cons_of_mem _ z2)
      · rcases List.mem_cons.mp hq with z | z
        · rw [z]; simp [List.lookup]
        · have ne : q.1 ≠ x := fun e => ha q z (by rw [List.map_cons, e]; exact List.mem_cons_self)
          rw [List.lookup_cons]
          have : (q.1 == x) = false := by simpa using ne
          rw [this]
          exact h q z
    · exact cells_plain nd.2 (fun p hp z2 => ha p hp (by rw [List.map_cons]; exact List.mem_cons_of_mem _ z2)) h
/-! ### triples of statements -/
/-- from Pre a statement comes to Post (and nothing returns) -/
def HT (X : Cx) (st : Stmt) (Pre Post : L2.St → Hp → Prop) : Prop := ∃ t : TS, PS X st t ∧ ∀ (D : Ends) σ H, Pre σ H → (∀ σ' H', Post σ' H' → D.nx σ' H') → t D σ H
def HTs (X : Cx) (sts : List Stmt) (Pre Post : L2.St → Hp → Prop) : Prop := ∃ t : TS, PSs X sts t ∧ ∀ (D : Ends) σ H, Pre σ H → (∀ σ' H', Post σ' H' → D.nx σ' H') → t D σ H
theorem ht_nil {X : Cx} {A : L2.St → Hp → Prop} : HTs X [] A A := ⟨_, pss_nil, fun D σ H h k => k σ H h⟩
theorem ht_cons {X : Cx} {st : Stmt} {sts : List Stmt} {A B C : L2.St → Hp → Prop} (h1 : HT X st A B) (h2 : HTs X sts B C) : HTs X (st :: sts) A C := by
  obtain ⟨t, p, r⟩ := h1
  obtain ⟨u, q, z⟩ := h2
  exact ⟨_, pss_cons p q, fun D σ H h k => r _ σ H h fun σ' H' h' => z D σ' H' h' k⟩
theorem ht_one {X : Cx} {st : Stmt} {A B : L2.St → Hp → Prop} (h1 : HT X st A B) : HTs X [st] A B := ht_cons h1 ht_nil
/-! ### what is tracked, but one object and the tables -/
open Classical in
noncomputable def veil (b : Option Addr) (H : Hp) : Hp := fun a => if b = some a then none else match H a with
  | some (.tbl _) => none
  | o => o
theorem veil_of {b : Option Addr} {H : Hp} {a : Addr} {o : HO} (h : H a = some o) (hb : b ≠ some a) (ht : ∀ ps, o ≠ .tbl ps) : veil b H a = some o := by
  unfold veil
  rw [if_neg hb, h]
  cases o <;> first | rfl | exact absurd rfl (ht _)
theorem of_veil {b : Option Addr} {H : Hp} {a : Addr} {o : HO} (h : veil b H a = some o) : H a = some o ∧ b ≠ some a ∧ ∀ ps, o ≠ .tbl ps := by
  unfold veil at h
  by_cases hb : b = some a
  · rw [if_pos hb] at h; cases h
  · rw [if_neg hb] at h
    cases e : H a with
    | none => rw [e] at h; cases h
    | some u =>
      rw [e] at h
      cases u <;> first | (cases h; exact ⟨rfl, hb, fun ps z => by cases z⟩) | cases h
theorem veil_le {b : Option Addr} {H : Hp} : Ex (veil b H) H := fun a o h => (of_veil h).1
theorem veil_ex {b : Option Addr} {H H' : Hp} (e : Ex H H') : Ex (veil b H) (veil b H') := fun a o h => let ⟨h1, h2, h3⟩ := of_veil h; veil_of (e a o h1) h2 h3
theorem veil_bx {b : Addr} {H H' : Hp} (e : Bx (oneB b) H H') : Ex (veil (some b) H) (veil (some b) H') := fun a o h => let ⟨h1, h2, h3⟩ := of_veil h; veil_of (e.keep a o (fun z => h2 (by rw [show a = b from z])) h1) h2 h3
theorem veil_extN {b : Option Addr} {H H' : Hp} (e : ExtN H H') : Ex (veil b H) (veil b H') := fun a o h => let ⟨h1, h2, h3⟩ := of_veil h; veil_of (e a o h1 h3) h2 h3
theorem veil_none {b : Addr} {H : Hp} (h : H b = none) : Ex (veil none H) (veil (some b) H) := fun a o e => by
  obtain ⟨h1, h2, h3⟩ := of_veil e
  exact veil_of h1 (fun z => by cases z; rw [h] at h1; cases h1) h3
theorem veil_drop {b : Addr} {H : Hp} : Ex (veil (some b) H) (veil none H) := fun a o e => by
  obtain ⟨h1, h2, h3⟩ := of_veil e
  exact veil_of h1 (fun z => nomatch z) h3
mutual
theorem dp_veil {K : Kf} {b : Addr} {H : Hp} : ∀ (d : PyData) (v : V), Dp K (hide b H) v d → Dp K (veil (some b) H) v d
  | .none, _, h => by cases h; exact .non
  | .bool c, _, h => by cases h; exact .bl c
  | .int i, _, h => by cases h; exact .int i
  | .str x, _, h => by cases h; exact .str x
  | .list ds, _, h => by
    cases h with
    | lst hs ha =>
      refine .lst ?_ (da_veil ds _ ha)
      have tr : ∀ {a o}, (hide b H) a = some o → (∀ ps, o ≠ .tbl ps) → (veil (some b) H) a = some o := fun {a o} e n => by
        by_cases z : a = b
        · unfold hide at e; rw [if_pos z] at e; cases e
        · rw [hide_ne z] at e; exact veil_of e (fun q => z (Option.some.inj q).symm) n
      rcases hs with (h | ⟨o, h⟩) | h
      · exact .inl (.inl (tr h fun ps z => by cases z))
      · exact .inl (.inr ⟨o, tr h fun ps z => by cases z⟩)
      · exact .inr h
  | .tuple ds, _, h => by
    cases h with
    | tup hs ha =>
      refine .tup ?_ (da_veil ds _ ha)
      have tr : ∀ {a o}, (hide b H) a = some o → (∀ ps, o ≠ .tbl ps) → (veil (some b) H) a = some o := fun {a o} e n => by
        by_cases z : a = b
        · unfold hide at e; rw [if_pos z] at e; cases e
        · rw [hide_ne z] at e; exact veil_of e (fun q => z (Option.some.inj q).symm) n
      rcases hs with (h | ⟨o, h⟩) | h
      · exact .inl (.inl (tr h fun ps z => by cases z))
      · exact .inl (.inr ⟨o, tr h fun ps z => by cases z⟩)
      · exact .inr h
  | .dict _, _, h => by cases h
theorem da_veil {K : Kf} {b : Addr} {H : Hp} : ∀ (ds : List PyData) (vs : List V), DpAll K (hide b H) vs ds → DpAll K (veil (some b) H) vs ds
  | [], _, h => by cases h; exact .nil
  | d :: ds, _, h => by
    cases h with
    | cons h1 h2 => exact .cons (dp_veil d _ h1) (da_veil ds _ h2)
end
theorem veil_hide {b : Addr} {H : Hp} : Ex (veil (some b) H) (hide b H) := fun a o e => by
  obtain ⟨h1, h2, _⟩ := of_veil e
  exact hide_at h1 (fun z => h2 (by rw [z]))
theorem tabS_bx {b P : Addr} {q : Str} {H H' : Hp} (hb : Box H b) (e : Bx (oneB b) H H') (t : TabS H P q) : TabS H' P q := by
  obtain ⟨x, y, z, hx⟩ := hb
  obtain ⟨ps, h1, h2, h3⟩ := t
  refine ⟨ps, e.keep P _ (fun w => ?_) h1, h2, fun pos cv h => ?_⟩
  · rw [show P = b from w, hx] at h1; cases h1
  · obtain ⟨c, h4, h5⟩ := h3 pos cv h
    refine ⟨c, h4, e.keep c _ (fun w => ?_) h5⟩
    rw [show c = b from w, hx] at h5
    cases h5
/-! ### small data shown -/
structure Sm (D W : Nat) (d : PyData) : Prop where
  lay : PyData.canLay0 d = true
  shw : d.showable = true
  srt : d.intsShort 13 = true
  nod : d.hasDict = false
  dep : d.depth ≤ D
  wgt : d.weight ≤ W
theorem sm_none : Sm 0 21 .none := ⟨by simp [PyData.canLay0], by simp [PyData.showable], by simp [PyData.intsShort], by simp [PyData.hasDict], by simp [PyData.depth], by simp [PyData.weight]⟩
theorem sm_int {i : Int} (h0 : 0 ≤ i) (h1 : i < 1000000) : Sm 0 21 (.int i) := by
  have hl : i.natAbs.log2 < 20 := by
    by_cases z : i.natAbs = 0
    · rw [z]; decide
    · exact (Nat.log2_lt z).mpr (by omega)
  refine ⟨by simp [PyData.canLay0], by simp [PyData.showable]; omega, ?_, by simp [PyData.hasDict], by simp [PyData.depth], by simp [PyData.weight]; split <;> omega⟩
  have := toString_length_le h0 (k := 6) (by decide) (by omega)
  simp only [PyData.intsShort, PyData.shown, decide_eq_true_eq]
  exact decide_eq_true (Nat.le_trans this (by decide : 6 ≤ 13))
theorem sm_all {D W n : Nat} : ∀ {ds : List PyData}, (∀ d ∈ ds, Sm D W d) → ds.length ≤ n → PyData.canLayAll0 ds = true ∧ PyData.showableAll ds = true ∧ PyData.intsShortAll 13 ds = true ∧ PyData.hasDictAll ds = false ∧ PyData.depthAll ds ≤ D ∧ PyData.weightAll ds ≤ ds.length * (W + 1)
  | [], _, _ => by simp [PyData.canLayAll0, PyData.showableAll, PyData.intsShortAll, PyData.hasDictAll, PyData.depthAll, PyData.weightAll]
  | d :: ds, h, hl => by
    have hd := h d List.mem_cons_self
    obtain ⟨a1, a2, a3, a4, a5, a6⟩ := sm_all (n := n) (fun x hx => h x (List.mem_cons_of_mem _ hx)) (by simp at hl; omega)
    refine ⟨by simp [PyData.canLayAll0, hd.lay, a1], by simp [PyData.showableAll, hd.shw, a2], by simp [PyData.intsShortAll, hd.srt, a3], by simp [PyData.hasDictAll, hd.nod, a4], ?_, ?_⟩
    · have := hd.dep; simp only [PyData.depthAll]; omega
    · have := hd.wgt
      simp only [PyData.weightAll, List.length_cons, Nat.add_mul, Nat.one_mul]
      omega
theorem sm_tuple {D W : Nat} {ds : List PyData} (h : ∀ d ∈ ds, Sm D W d) : Sm (D + 1) (ds.length * (W + 1)) (.tuple ds) := by
  obtain ⟨a1, a2, a3, a4, a5, a6⟩ := sm_all (n := ds.length) h (Nat.le_refl _)
  exact ⟨by simp [PyData.canLay0, a1], by simp [PyData.showable, a2], by simp [PyData.intsShort, a3], by simp [PyData.hasDict, a4], by simp only [PyData.depth]; omega, by simp only [PyData.weight]; omega⟩
theorem Sm.mono {D W D' W' : Nat} {d : PyData} (h : Sm D W d) (h1 : D ≤ D') (h2 : W ≤ W') : Sm D' W' d := ⟨h.lay, h.shw, h.srt, h.nod, Nat.le_trans h.dep h1, Nat.le_trans h.wgt h2⟩
theorem Sm.fits {D W : Nat} {d : PyData} (h : Sm D W d) (hD : D ≤ 60) (hW : W ≤ 2 ^ 20) : d.shown.length ≤ sizeLine := by
  refine PyData.shown_fits_of_layable0 (B := 13) (by decide) (by decide) ?_ h.srt
  unfold PyData.layable0
  simp only [Bool.and_eq_true, decide_eq_true_eq]
  exact ⟨⟨h.lay, Nat.le_trans h.dep (by omega)⟩, Nat.le_trans h.wgt hW⟩
/-- repr(e) of such data -/
theorem ev_repr {K : Kf} {σ : L2.St} {H : Hp} {te : TE} {a : Addr} {d : PyData} {D W : Nat} (h : Ev te σ H (.ref a)) (hd : Dp K H (.ref a) d) (s : Sm D W d) (hD : D ≤ 60) (hW : W ≤ 2 ^ 20) : Ev (tCB (rRepr K) (tCons te tNil)) σ H (.str d.shown) := fun H1 e Q q =>
  h H1 e _ fun H2 e2 => ⟨a, d, rfl, hd.ex (e.trans e2), s.shw, s.nod, Nat.le_trans s.dep hD, s.fits hD hW, q H2 e2⟩
end Fw
/-! law: the turn's first statements -/
namespace Fw
open PySem PySem.Spec PyProof.Rows L2 Evl LamX
/-- where a def stands -/
structure Fd where
  a : Addr
  d : FuncData
/-- where all stand -/
structure Ad where
  int : Fd
  num : Fd
  below : Fd
  seq : Fd
  pair : Fd
  row : Fd
  mach : Fd
  news : Fd
  late : Fd
  kin : Fd
  wof : Fd
  win : Fd
  gap : Fd
  told : Fd
  box : Fd
  take : Fd
  pick : Fd
  map : Fd
  mkm : Fd
  ltn : Fd
  tale : Fd
  lib : Fd
  fault : Fd
  spoil : Fd
  err : Fd
  CM : Addr
  CL : Addr
  CS : Addr
  iM : Addr
  iL : Addr
  iS : Addr
/-- all that the top leaves -/
structure All (P : Program) (K : Kf) (mg : Str → Option Value) (x : Ad) : Prop where
  W : Wd K mg x.int.a x.num.a x.below.a x.seq.a x.pair.a x.int.d x.num.d x.below.d x.seq.d x.pair.d
  D : DMl K mg x.row.a x.mach.a x.news.a x.late.a x.kin.a x.wof.a x.win.a x.gap.a x.row.d x.mach.d x.news.d x.late.d x.kin.d x.wof.d x.win.d x.gap.d
  T : Ers P K mg x.CM x.CL x.CS x.iM x.iL x.iS
  X : ErsX K x.CM x.CL x.CS
  told : Dfn K mg "need_told" sTold ["machine", "lateness", "value"] x.told.a x.told.d
  R : DDr K mg x.take.a x.pick.a x.map.a x.take.d x.pick.d x.map.d
  box : Dfn K mg "_law_box" sBox ["_law_script", "_law_k"] x.box.a x.box.d
  mkm : Dfn K mg "_law_machine" sMk ["_law_box_here", "_law_most", "_law_kinds"] x.mkm.a x.mkm.d
  ltn : Dfn K mg "_law_lateness" sLtn ["_law_box_here", "_law_kinds", "_law_most"] x.ltn.a x.ltn.d
  tale : Dfn K mg "_law_told_story" sTale ["_law_box_here", "_law_lateness_here", "_law_many", "_law_gap"] x.tale.a x.tale.d
  lib : Dfn K mg "_law_is_below" sLib ["_law_value", "_law_bound"] x.lib.a x.lib.d
  fault : Dfn K mg "_law_fault" sFault ["_law_value", "_law_lateness_here"] x.fault.a x.fault.d
  spoil : Dfn K mg "_law_spoilt" sSpoil ["_law_box_here", "_law_story", "_law_kinds"] x.spoil.a x.spoil.d
  err : Dfn K mg "_law_error" sErr ["_law_work"] x.err.a x.err.d
abbrev sLaw : Stmt := topS 41
def lawSt (i : Nat) : Stmt := (defBody sLaw).getD i (.Pass ⟨0, 0, 0, 0⟩)
def forBody (s : Stmt) : List Stmt := match s with
  | .For _ _ b _ _ => b
  | _ => []
def inFor (i : Nat) : Stmt := (forBody (lawSt 3)).getD i (.Pass ⟨0, 0, 0, 0⟩)
abbrev nLaw : List Str := ["_law_script", "_law_k", "_law_kinds", "_law_behind", "_law_due", "_law_story", "_law_turn", "_law_fault_here", "_law_at", "_law_bad", "_law_works", "_law_box_here", "_law_latch", "_law_lateness_here", "_law_machine_here", "_law_spoilt_here", "_law_wrong", "_law_told", "_law_kind", "_law_news", "_law_work"]
theorem scLaw : FnScope nLaw ["_law_script"] (defScope sLaw) := ⟨rfl, rfl, rfl, by decide +kernel, rfl, by decide +kernel, by decide +kernel⟩
/-- law's frame -/
abbrev lawX (P : Program) (w : World) (K : Kf) (mg : Str → Option Value) (base : Heap) (fa c : Addr) (A : Around) (s : Shared) (H : Hp) : Cx := cxOf CX0 P w K mg base nLaw "law" (defScope sLaw) fa (.ref c) A [] s H (fun _ _ _ => False)
abbrev qLam : Str := "law.<locals>.<lambda>"
/-- law's names -/
abbrev St17 (v0 v1 v2 v3 v4 v5 v6 v7 v8 v9 v10 v11 v12 v13 v14 v15 v16 : Option V) : L2.St := [v0, v1, v2, v3, v4, v5, v6, v7, v8, v9, v10, v11, v12, v13, v14, v15, v16, none, none, none, none]
/-- a step that keeps what is told of all but the box -/
structure Vs (T b : Addr) (H H' : Hp) : Prop where
  ex : Ex (veil (some b) H) (veil (some b) H')
  tab : TabS H T qLam → TabS H' T qLam
  box : Box H b → Box H' b
theorem Vs.refl {T b : Addr} (H : Hp) : Vs T b H H := ⟨Ex.refl _, id, id⟩
theorem Vs.trans {T b : Addr} {H H1 H2 : Hp} (x : Vs T b H H1) (y : Vs T b H1 H2) : Vs T b H H2 := ⟨x.ex.trans y.ex, y.tab ∘ x.tab, y.box ∘ x.box⟩
theorem Vs.of {T b : Addr} {H H' : Hp} (e : Ex H H') : Vs T b H H' := ⟨veil_ex e, fun t => t.ext e, fun h => h.ex e⟩
theorem Vs.bx {T b : Addr} {H H' : Hp} (hb : Box H b) (e : Bx (oneB b) H H') : Vs T b H H' := ⟨veil_bx e, tabS_bx hb e, fun h => e.bo h⟩
theorem Vs.lam {T b : Addr} {H H' : Hp} (e : ExtN H H') (t : TabS H' T qLam) : Vs T b H H' := ⟨veil_extN e, fun _ => t, fun ⟨x, y, z, h⟩ => ⟨x, y, z, e _ _ h fun ps z => by cases z⟩⟩
/-- with a box: the script, the table, the box -/
structure R1 (K : Kf) (T a : Addr) (ns : List Int) (b : Addr) (H : Hp) : Prop where
  scr : SqL K (veil (some b) H) a (ns.map V.int)
  tab : TabS H T qLam
  box : Box H b
theorem R1.step {K : Kf} {T a : Addr} {ns : List Int} {b : Addr} {H H' : Hp} (h : R1 K T a ns b H) (v : Vs T b H H') : R1 K T a ns b H' := ⟨ex_l v.ex h.scr, v.tab h.tab, v.box h.box⟩
/-- with a machine and lateness -/
structure R4 (K : Kf) (T a : Addr) (ns : List Int) (b : Addr) (m : V) (kk : Nat) (l : Addr) (ls : Lat) (H : Hp) : Prop extends R1 K T a ns b H where
  mac : MacV K (veil (some b) H) m kk
  lat : veil (some b) H l = some (.tup (ls.map latV))
  ok : LatOk ls kk
theorem R4.step {K : Kf} {T a : Addr} {ns : List Int} {b : Addr} {m : V} {kk : Nat} {l : Addr} {ls : Lat} {H H' : Hp} (h : R4 K T a ns b m kk l ls H) (v : Vs T b H H') : R4 K T a ns b m kk l ls H' := ⟨h.toR1.step v, h.mac.ex v.ex, v.ex _ _ h.lat, h.ok⟩
section
variable {K : Kf} {T a b : Addr} {ns : List Int} {m : V} {kk : Nat} {l : Addr} {ls : Lat} {H : Hp}
theorem R4.latH (h : R4 K T a ns b m kk l ls H) : H l = some (.tup (ls.map latV)) := veil_le _ _ h.lat
theorem R4.lb (h : R4 K T a ns b m kk l ls H) : l ≠ b := fun z => (of_veil h.lat).2.1 (by rw [z])
theorem R4.k14 (h : R4 K T a ns b m kk l ls H) : 1 ≤ kk ∧ kk ≤ 4 := h.mac.k4
theorem R4.latD (h : R4 K T a ns b m kk l ls H) : Dp K H (.ref l) (.tuple (ls.map latP)) := .tup (st_of h.latH) (da_of dp_lat ls)
theorem latFault_ok {ls : Lat} {kk : Nat} (h : LatOk ls kk) {d : PyData} (hs : seqD d = some (ls.map latP)) : latFault kk d = none := by
  unfold latFault
  rw [hs]
  have hl : (ls.map latP).length = kk := by rw [List.length_map, h.len]
  simp only [hl, ne_eq, not_true_eq_false, if_false]
  have : (ls.map latP).findIdx? latBad = none := by
    rw [List.findIdx?_eq_none_iff]
    intro x hx
    obtain ⟨t, ht, rfl⟩ := List.mem_map.mp hx
    cases t with
    | none => rfl
    | some t =>
      have := h.rng t ht
      simp [latP, latBad, belowD, this.1, this.2]
  rw [this]
  rfl
end
theorem mac_len {K : Kf} {H : Hp} {m : V} {kk : Nat} (h : MacV K H m kk) : ∃ x y z rows, m = .ref x ∧ SqT K H x [.ref y, .ref z] ∧ SqT K H y rows ∧ rows.length = kk := by
  obtain ⟨nss, rs, hd, _, e⟩ := h
  obtain ⟨x, y, z, rows, h1, h2, h3, h4, _⟩ := dp_mac hd
  exact ⟨x, y, z, rows, h1, h2, h3, by rw [da_len h4, List.length_map, e]⟩
theorem veil_fresh {b p : Addr} {H H' : Hp} {o : HO} (hb : Box H b) (hp : H p = none) (h : H' p = some o) (ht : ∀ ps, o ≠ .tbl ps) : veil (some b) H' p = some o :=
  veil_of h (fun z => ne_box hb hp (Option.some.inj z).symm) ht
section
variable {P : Program} {w : World} {K : Kf} {mg : Str → Option Value} {base : Heap} {x : Ad} {fa c T : Addr} {A : Around} {s : Shared} {H0 : Hp} {a : Addr} {ns : List Int}
/-- at the start of a turn -/
def N0 (K : Kf) (T a : Addr) (ns : List Int) (σ : L2.St) (H : Hp) : Prop := ∃ (i : Int) (y2 y3 y4 y5 y6 y7 y8 y9 y10 y11 y12 y13 y14 y15 y16 : Option V), σ = St17 (some (.ref a)) (some (.int i)) y2 y3 y4 y5 y6 y7 y8 y9 y10 y11 y12 y13 y14 y15 y16 ∧
  0 ≤ i ∧ i ≤ 100 ∧ SqL K (veil none H) a (ns.map V.int) ∧ TabS H T qLam
def N1 (K : Kf) (T a : Addr) (ns : List Int) (σ : L2.St) (H : Hp) : Prop := ∃ (i : Int) (b : Addr) (y2 y3 y4 y5 y6 y7 y8 y9 y10 y12 y13 y14 y15 y16 : Option V), σ = St17 (some (.ref a)) (some (.int i)) y2 y3 y4 y5 y6 y7 y8 y9 y10 (some (.ref b)) y12 y13 y14 y15 y16 ∧ R1 K T a ns b H
theorem ht_box (Z : All P K mg x) (hr : Room 10 (A.deeper (envOfC "law" (defScope sLaw) s.heap.objs.size fa (.ref c)))) : HT (lawX P w K mg base fa c A s H0) (inFor 0) (N0 K T a ns) (N1 K T a ns) := by
  refine ⟨_, ps_set (i := 11) scLaw.nd rfl (.inr rfl) (pe_dfn (ok_box Z.box Z.W.B) Z.box (hr.mono (by decide)) (by rfl) (pa_cons (pv 0) (pa_cons (pv 1) pa_nil))), ?_⟩
  rintro D _ H ⟨i, y2, y3, y4, y5, y6, y7, y8, y9, y10, y11, y12, y13, y14, y15, y16, rfl, i0, i1, hs, ht⟩ k
  refine ⟨_, rfl, _, rfl, a, ns, i, rfl, ex_l veil_le hs, i0, i1, fun p H' e hp hb => k _ _ ⟨i, p, _, _, _, _, _, _, _, _, _, _, _, _, _, _, rfl, ?_, ht.ext e, hb⟩⟩
  have nb : Ex (veil none H) (veil (some p) H) := veil_none hp
  exact ex_l (nb.trans (veil_ex e)) hs
/-- with the machine -/
def N2 (K : Kf) (T a : Addr) (ns : List Int) (σ : L2.St) (H : Hp) : Prop := ∃ (i : Int) (b : Addr) (m : V) (kk : Nat) (y2 y3 y4 y5 y6 y7 y8 y9 y10 y12 y13 y15 y16 : Option V), σ = St17 (some (.ref a)) (some (.int i)) y2 y3 y4 y5 y6 y7 y8 y9 y10 (some (.ref b)) y12 y13 (some m) y15 y16 ∧ R1 K T a ns b H ∧ MacV K (veil (some b) H) m kk
theorem MacV.veil {K : Kf} {b : Addr} {H : Hp} {m : V} {kk : Nat} (h : MacV K (hide b H) m kk) : MacV K (veil (some b) H) m kk := let ⟨x, y, z, o⟩ := h; ⟨x, y, dp_veil _ _ z, o⟩
theorem ht_mk (Z : All P K mg x) (hr : Room 10 (A.deeper (envOfC "law" (defScope sLaw) s.heap.objs.size fa (.ref c)))) : HT (lawX P w K mg base fa c A s H0) (inFor 1) (N1 K T a ns) (N2 K T a ns) := by
  refine ⟨_, ps_set (i := 14) scLaw.nd rfl (.inr rfl) (pe_dfn (ok_mk Z.mkm Z.R Z.W.B) Z.mkm (hr.mono (by decide)) (by rfl) (pa_cons (pv 11) (pa_cons pe_int (pa_cons pe_int pa_nil)))), ?_⟩
  rintro D _ H ⟨i, b, y2, y3, y4, y5, y6, y7, y8, y9, y10, y12, y13, y14, y15, y16, rfl, r⟩ k
  exact ⟨_, rfl, b, 3, 4, rfl, r.box, by decide, by decide, by decide, by decide, fun m H' kk bx hm => k _ _ ⟨i, b, m, kk, _, _, _, _, _, _, _, _, _, _, _, _, _, rfl, r.step (.bx r.box bx), hm.veil⟩⟩
/-- with the number of kinds -/
def N3 (K : Kf) (T a : Addr) (ns : List Int) (σ : L2.St) (H : Hp) : Prop := ∃ (i : Int) (b : Addr) (m : V) (kk : Nat) (y3 y4 y5 y6 y7 y8 y9 y10 y12 y13 y15 y16 : Option V), σ = St17 (some (.ref a)) (some (.int i)) (some (.int kk)) y3 y4 y5 y6 y7 y8 y9 y10 (some (.ref b)) y12 y13 (some m) y15 y16 ∧ R1 K T a ns b H ∧ MacV K (veil (some b) H) m kk
theorem ht_kinds (Z : All P K mg x) : HT (lawX P w K mg base fa c A s H0) (inFor 2) (N2 K T a ns) (N3 K T a ns) := by
  refine ⟨_, ps_set (i := 2) scLaw.nd rfl (.inl rfl) (pe_len Z.W.B (by rfl) (pe_ix ix_seq (pv 14) pe_int (fun _ _ => rfl))), ?_⟩
  rintro D _ H ⟨i, b, m, kk, y2, y3, y4, y5, y6, y7, y8, y9, y10, y12, y13, y15, y16, rfl, r, hm⟩ k
  obtain ⟨q, y, z, rows, rfl, h1, h2, hl⟩ := mac_len (hm.ex veil_le)
  refine s_asg (ev_lenS (ev_ixT (ev_var rfl) ev_c h1 rfl) (.inr h2)) fun H' e => k _ _ ?_
  rw [hl]
  exact ⟨i, b, _, kk, _, _, _, _, _, _, _, _, _, _, _, _, rfl, r.step (.of e), hm.ex (veil_ex e)⟩
/-- with lateness -/
def N4 (K : Kf) (T a : Addr) (ns : List Int) (σ : L2.St) (H : Hp) : Prop := ∃ (i : Int) (b : Addr) (m : V) (kk : Nat) (l : Addr) (ls : Lat) (y3 y4 y5 y6 y7 y8 y9 y10 y12 y15 y16 : Option V), σ = St17 (some (.ref a)) (some (.int i)) (some (.int kk)) y3 y4 y5 y6 y7 y8 y9 y10 (some (.ref b)) y12 (some (.ref l)) (some m) y15 y16 ∧ R4 K T a ns b m kk l ls H
theorem ht_ltn (Z : All P K mg x) (hr : Room 10 (A.deeper (envOfC "law" (defScope sLaw) s.heap.objs.size fa (.ref c)))) : HT (lawX P w K mg base fa c A s H0) (inFor 3) (N3 K T a ns) (N4 K T a ns) := by
  refine ⟨_, ps_set (i := 13) scLaw.nd rfl (.inr rfl) (pe_dfn (ok_ltn Z.ltn Z.R Z.W.B) Z.ltn (hr.mono (by decide)) (by rfl) (pa_cons (pv 11) (pa_cons (pv 2) (pa_cons (pe_dfn (ok_pick Z.R.pick Z.R.take Z.W.B) Z.R.pick (hr.mono (by decide)) (by rfl) (pa_cons (pv 11) (pa_cons (pe_lst (pa_cons pe_int (pa_cons pe_int (pa_cons pe_int pa_nil)))) pa_nil))) pa_nil)))), ?_⟩
  rintro D _ H ⟨i, b, m, kk, y3, y4, y5, y6, y7, y8, y9, y10, y12, y13, y15, y16, rfl, r, hm⟩ k
  refine ⟨_, rfl, _, rfl, _, rfl, sz_of (by show 3 ≤ 100000; decide), fun pl hpl => ?_⟩
  have e1 : Ex H (upd H pl (.lst [.int 2, .int 5, .int 12])) := Ex.new hpl
  refine ⟨b, pl, _, rfl, r.box.ex e1, ne_box r.box hpl, upd_same, by show 0 < 3; decide, by show 3 ≤ 1000; decide, fun v H1 hv bx1 => ?_⟩
  have k4 := hm.k4
  obtain ⟨mo, rfl, m0, m1⟩ : ∃ mo : Int, v = .int mo ∧ 0 ≤ mo ∧ mo ≤ 12 := by
    simp at hv
    rcases hv with rfl | rfl | rfl
    · exact ⟨2, rfl, by decide, by decide⟩
    · exact ⟨5, rfl, by decide, by decide⟩
    · exact ⟨12, rfl, by decide, by decide⟩
  have v1 : Vs T b H H1 := (Vs.of e1).trans (.bx (r.box.ex e1) bx1)
  have hb1 := v1.box r.box
  refine ⟨b, kk, mo, rfl, hb1, k4.2, m0, m1, fun p H2 ls bx2 hp hp2 ok => ?_⟩
  have v2 : Vs T b H H2 := v1.trans (.bx hb1 bx2)
  exact k _ _ ⟨i, b, m, kk, p, ls, _, _, _, _, _, _, _, _, _, _, _, rfl, ⟨r.step v2, hm.ex v2.ex, veil_fresh hb1 hp hp2 (fun ps z => by cases z), ok⟩⟩
end
end Fw
/-! law: what comes back in tuples -/
namespace Fw
open PySem PySem.Spec PyProof.Rows L2 Evl LamX
/-! ### keywords -/
def gK2 {α : Type} : List α → List α → List α
  | [], [a, b] => [a, b]
  | _, _ => []
def gK3 {α : Type} : List α → List α → List α
  | [a, b], [c] => [a, b, c]
  | _, _ => []
def gK1 {α : Type} : List α → List α → List α
  | [a], [b, c] => [a, b, c]
  | _, _ => []
theorem gK2_rel {vs : List V} {us : List Value} {zs : List V} {ws : List Value} (h1 : Vals vs us) (h2 : Vals zs ws) : Vals (gK2 vs zs) (gK2 us ws) := by
  cases h1 with
  | nil =>
    cases h2 with
    | nil => exact .nil
    | cons r h2 =>
      cases h2 with
      | nil => exact .nil
      | cons r2 h2 =>
        cases h2 with
        | nil => exact .cons r (.cons r2 .nil)
        | cons _ _ => exact .nil
  | cons _ _ => exact .nil
theorem gK3_rel {vs : List V} {us : List Value} {zs : List V} {ws : List Value} (h1 : Vals vs us) (h2 : Vals zs ws) : Vals (gK3 vs zs) (gK3 us ws) := by
  cases h1 with
  | nil => exact .nil
  | cons r h1 =>
    cases h1 with
    | nil => exact .nil
    | cons r2 h1 =>
      cases h1 with
      | nil =>
        cases h2 with
        | nil => exact .nil
        | cons r3 h2 =>
          cases h2 with
          | nil => exact .cons r (.cons r2 (.cons r3 .nil))
          | cons _ _ => exact .nil
      | cons _ _ => exact .nil
theorem gK1_rel {vs : List V} {us : List Value} {zs : List V} {ws : List Value} (h1 : Vals vs us) (h2 : Vals zs ws) : Vals (gK1 vs zs) (gK1 us ws) := by
  cases h1 with
  | nil => exact .nil
  | cons r h1 =>
    cases h1 with
    | nil =>
      cases h2 with
      | nil => exact .nil
      | cons r2 h2 =>
        cases h2 with
        | nil => exact .nil
        | cons r3 h2 =>
          cases h2 with
          | nil => exact .cons r (.cons r2 (.cons r3 .nil))
          | cons _ _ => exact .nil
    | cons _ _ => exact .nil
theorem gK2_of {α : Type} {us ws : List α} (h : (gK2 us ws).length = 2) : us = [] ∧ ∃ a b, ws = [a, b] := by
  match us, ws, h with
  | [], [a, b], _ => exact ⟨rfl, a, b, rfl⟩
  | [], [], h => cases h
  | [], [_], h => cases h
  | [], _ :: _ :: _ :: _, h => cases h
  | _ :: _, _, h => cases h
theorem gK3_of {α : Type} {us ws : List α} (h : (gK3 us ws).length = 3) : ∃ a b c, us = [a, b] ∧ ws = [c] := by
  match us, ws, h with
  | [a, b], [c], _ => exact ⟨a, b, c, rfl, rfl⟩
  | [], _, h => cases h
  | [_], _, h => cases h
  | [_, _], [], h => cases h
  | [_, _], _ :: _ :: _, h => cases h
  | _ :: _ :: _ :: _, _, h => cases h
theorem gK1_of {α : Type} {us ws : List α} (h : (gK1 us ws).length = 3) : ∃ a b c, us = [a] ∧ ws = [b, c] := by
  match us, ws, h with
  | [a], [b, c], _ => exact ⟨a, b, c, rfl, rfl⟩
  | [], _, h => cases h
  | [_], [], h => cases h
  | [_], [_], h => cases h
  | [_], _ :: _ :: _ :: _, h => cases h
  | _ :: _ :: _, _, h => cases h
section
variable {P : Program} {K : Kf} {mg : Str → Option Value} {x : Ad}
theorem kb_late (Z : All P K mg x) : KBinds K x.late.d ["machine", "value"] ["machine", "value"] gK2 gK2 := ⟨fun s us ws _ h => by
  obtain ⟨oc, od, kV, doc, pm, an, cdv, ct, osl, e, lk, hcd⟩ := Z.D.late.F.ex
  obtain ⟨rfl, a, b, rfl⟩ := gK2_of h
  rw [e]
  exact .of_eq rfl, gK2_rel⟩
theorem kb_win (Z : All P K mg x) : KBinds K x.win.d ["machine", "lateness"] ["machine", "lateness"] gK2 gK2 := ⟨fun s us ws _ h => by
  obtain ⟨oc, od, kV, doc, pm, an, cdv, ct, osl, e, lk, hcd⟩ := Z.D.win.F.ex
  obtain ⟨rfl, a, b, rfl⟩ := gK2_of h
  rw [e]
  exact .of_eq rfl, gK2_rel⟩
theorem kb_gap (Z : All P K mg x) : KBinds K x.gap.d ["machine", "lateness", "behind"] ["behind"] gK3 gK3 := ⟨fun s us ws _ h => by
  obtain ⟨oc, od, kV, doc, pm, an, cdv, ct, osl, e, lk, hcd⟩ := Z.D.gap.F.ex
  obtain ⟨a, b, c, rfl, rfl⟩ := gK3_of h
  rw [e]
  exact .of_eq rfl, gK3_rel⟩
theorem kb_told (Z : All P K mg x) : KBinds K x.told.d ["machine", "lateness", "value"] ["lateness", "value"] gK1 gK1 := ⟨fun s us ws _ h => by
  obtain ⟨oc, od, kV, doc, pm, an, cdv, ct, osl, e, lk, hcd⟩ := Z.told.F.ex
  obtain ⟨a, b, c, rfl, rfl⟩ := gK1_of h
  rw [e]
  exact .of_eq rfl, gK1_rel⟩
end
/-- nothing comes out of such a call -/
theorem passF {X : Cx} : Passes (L2.CX X.prog X.w) X (fun _ _ _ => False) := fun pins σ H s e s' I h => passAt (W := fun _ _ _ _ => False) L2.takes0 σ pins H s e s' I h
/-! ### data that a reading gives, new or not -/
section
variable {K : Kf} {σ : L2.St} {H : Hp} {te : TE}
def EvD (K : Kf) (te : TE) (σ : L2.St) (H : Hp) (d : PyData) : Prop := ∀ H1, Ex H H1 → ∀ Q : VK, (∀ a H2, Ex H1 H2 → Dp K H2 (.ref a) d → Q (.ref a) H2) → te σ H1 Q
theorem ed_of {a : Addr} {d : PyData} (h : Ev te σ H (.ref a)) (hd : Dp K H (.ref a) d) : EvD K te σ H d := fun H1 e Q q => h H1 e _ fun H2 e2 => q a H2 e2 (hd.ex (e.trans e2))
theorem ev_reprD {d : PyData} {D W : Nat} (h : EvD K te σ H d) (s : Sm D W d) (hD : D ≤ 60) (hW : W ≤ 2 ^ 20) : Ev (tCB (rRepr K) (tCons te tNil)) σ H (.str d.shown) := fun H1 e Q q =>
  h H1 e _ fun a H2 e2 hd => ⟨a, d, rfl, hd, s.shw, s.nod, Nat.le_trans s.dep hD, s.fits hD hW, q H2 e2⟩
theorem ev_neS {x : Str} {ta tb : TE} (ha : Ev ta σ H (.str x)) (hb : Ev tb σ H (.str x)) : EvT (tTest (tOp rNe ta tb)) σ H false := et_is (et_test (ev_op ha hb (rv_ne (x := .str x) (y := .str x) rfl))) (by simp)
theorem el_rg {ta tb : TE} {i j : Int} (ha : Ev ta σ H (.int i)) (hb : Ev tb σ H (.int j)) (ok : RgOk i j) : EvL (tLstRg (tRg2 ta tb)) σ H (rgV i j) := fun H1 e Q q =>
  ha H1 e _ fun H2 e2 => hb H2 (e.trans e2) _ fun H3 e3 => ⟨i, j, rfl, rfl, ok, fun p hp => q p _ (fresh_back (e2.trans e3) hp) ((e2.trans e3).trans (Ex.new hp)) upd_same⟩
end
theorem sm_lat {ls : Lat} {kk : Nat} (h : LatOk ls kk) (hk : kk ≤ 4) : Sm 2 200 (.tuple (ls.map latP)) := by
  refine (sm_tuple (D := 0) (W := 21) fun d hd => ?_).mono (by decide) (by rw [List.length_map, h.len]; omega)
  obtain ⟨t, ht, rfl⟩ := List.mem_map.mp hd
  cases t with
  | none => exact sm_none
  | some t => have := h.rng t ht; exact sm_int (by omega) (by omega)
theorem kindsAt_len (ls : Lat) (n : Int) : (kindsAt ls n).length ≤ ls.length := by
  unfold kindsAt
  rw [List.length_map]
  exact Nat.le_trans (List.length_filter_le _ _) (by rw [List.length_range]; exact Nat.le_refl _)
theorem kindsAt_mem {ls : Lat} {n j : Int} (h : j ∈ kindsAt ls n) : 0 ≤ j ∧ j < (ls.length : Int) := by
  unfold kindsAt at h
  obtain ⟨i, hi, rfl⟩ := List.mem_map.mp h
  have := List.mem_range.mp (List.mem_filter.mp hi).1
  exact ⟨Int.natCast_nonneg i, Int.ofNat_lt.mpr this⟩
theorem sm_kinds {ls : Lat} {n : Int} (hk : ls.length ≤ 4) : Sm 2 200 (.tuple ((kindsAt ls n).map PyData.int)) := by
  have hl := kindsAt_len ls n
  refine (sm_tuple (D := 0) (W := 21) fun d hd => ?_).mono (by decide) (by rw [List.length_map]; omega)
  obtain ⟨t, ht, rfl⟩ := List.mem_map.mp hd
  have := kindsAt_mem ht
  exact sm_int this.1 (by omega)
theorem ok_rng {ls : Lat} : ∀ {nw : List (Int × Int)} {heard : List Int}, okFrom ls heard nw → ∀ p ∈ nw, (0 ≤ p.1 ∧ p.1 < 1000000) ∧ 0 ≤ p.2 ∧ p.2 < (ls.length : Int)
  | [], _, _, p, hp => by simp at hp
  | z :: nw, heard, h, p, hp => by
    rcases List.mem_cons.mp hp with e | e
    · rw [e]; exact ⟨h.1.1, h.1.2.1⟩
    · exact ok_rng h.2 p e
theorem sm_tale {ls : Lat} {nw : List (Int × Int)} (h : okFrom ls [] nw) (hk : ls.length ≤ 4) (hn : nw.length ≤ 9) : Sm 3 2000 (.tuple (nw.map newsP)) := by
  refine (sm_tuple (D := 1) (W := 44) fun d hd => ?_).mono (by decide) (by rw [List.length_map]; omega)
  obtain ⟨p, hp, rfl⟩ := List.mem_map.mp hd
  obtain ⟨⟨a1, a2⟩, a3, a4⟩ := ok_rng h p hp
  refine (sm_tuple (D := 0) (W := 21) fun d hd => ?_).mono (by decide) (by show 2 * 22 ≤ 44; decide)
  rcases List.mem_cons.mp hd with e | e
  · rw [e]; exact sm_int a1 a2
  · have e' : d = .int p.2 := by simpa using e
    rw [e']; exact sm_int a3 (by omega)
section
variable {P : Program} {w : World} {K : Kf} {mg : Str → Option Value} {base : Heap} {x : Ad} {fa c T : Addr} {A : Around} {s : Shared} {H0 : Hp} {a : Addr} {ns : List Int}
theorem pe_repr {X : Cx} {e : Expr} {te : TE} {p pos : Pos} (hg : X.A.guards = some []) (hu : X.A.units + 64 < cLine) (B : Blt X.mg) (hgr : Gl X "repr") (he : PE X e te) (hs : starEach (e :: []) X.env = (false, eval e X.env) :: starEach [] X.env := by rfl) (hpl : (backTo pos (starEach [] X.env)).any (·.1) = false := by rfl) :
    PE X (.Call (.Name "repr" p) [e] [] pos) (tCB (rRepr X.K) (tCons te tNil)) := pe_callB (call_repr hg hu) hgr B.repr bt_repr (pa_cons he pa_nil hs) (by decide) (by decide) hs hpl
/-- an if whose test is false -/
theorem ht_if {X : Cx} {cnd : Expr} {body : List Stmt} {t : TT} {pos : Pos} {Pre : L2.St → Hp → Prop} {u : TS} (hc : PT X cnd t) (hb : PSs X body u) (h : ∀ σ H, Pre σ H → EvT t σ H false) (hx : ∀ σ H H', Pre σ H → Ex H H' → Pre σ H') : HT X (.If cnd body [] pos) Pre Pre :=
  ⟨_, ps_if hc hb pss_nil, fun D σ H hp k => h σ H hp H (Ex.refl _) _ fun H1 e1 => k σ H1 (hx σ H H1 hp e1)⟩
theorem N4.ex {σ : L2.St} {H H' : Hp} (h : N4 K T a ns σ H) (e : Ex H H') : N4 K T a ns σ H' := by
  obtain ⟨i, b, m, kk, l, ls, y3, y4, y5, y6, y7, y8, y9, y10, y12, y15, y16, rfl, r⟩ := h
  exact ⟨i, b, m, kk, l, ls, _, _, _, _, _, _, _, _, _, _, _, rfl, r.step (.of e)⟩
theorem lat_inj {ls ls' : Lat} (h : ls.map latP = ls'.map latP) : ls = ls' := by
  induction ls generalizing ls' with
  | nil => cases ls' with
    | nil => rfl
    | cons _ _ => cases h
  | cons t ls ih => cases ls' with
    | nil => cases h
    | cons t' ls' =>
      rw [List.map_cons, List.map_cons] at h
      injection h with h1 h2
      rw [ih h2]
      cases t <;> cases t' <;> first | rfl | (cases h1; done) | (cases h1; rfl)
theorem ht_back (Z : All P K mg x) (hr : Room 10 (A.deeper (envOfC "law" (defScope sLaw) s.heap.objs.size fa (.ref c)))) (hg : A.guards = some []) : HT (lawX P w K mg base fa c A s H0) (inFor 4) (N4 K T a ns) (N4 K T a ns) := by
  have B := Z.W.B
  have hu := hr.units
  refine ht_if (pt_cmpR op_ne (pe_repr (by exact hg) hu B (by rfl) (pe_callK0 (ok_late Z.D Z.W Z.T) (hr.mono (by decide)) (by rfl) Z.D.late.m Z.D.late.F.kp (kb_late Z) passF (pk_cons (pv 14) (pk_cons (pe_list B (by rfl) (pv 13)) pk_nil)))) (pe_repr (by exact hg) hu B (by rfl) (pv 13)) (nomark _)) (pss_one (ps_ret pe_bl)) (fun σ H h => ?_) fun σ H H' h e => h.ex e
  obtain ⟨i, b, m, kk, l, ls, y3, y4, y5, y6, y7, y8, y9, y10, y12, y15, y16, rfl, r⟩ := h
  have sm := sm_lat r.ok r.k14.2
  refine ev_neS (x := PyData.shown (.tuple (ls.map latP))) (ev_reprD (fun H1 e1 Q q => ?_) sm (by decide) (by decide)) (ev_repr (ev_var rfl) r.latD sm (by decide) (by decide))
  refine ⟨_, rfl, _, rfl, l, _, rfl, .inr (st_of (e1 _ _ r.latH)), fun p hp => ?_⟩
  have e2 : Ex H1 (upd H1 p (.lst (ls.map latV))) := Ex.new hp
  have hd : Dp K (upd H1 p (.lst (ls.map latV))) (.ref p) (.list (ls.map latP)) := .lst (sq_of upd_same) (da_of dp_lat ls)
  have hf : latFault kk (.list (ls.map latP)) = none := latFault_ok r.ok rfl
  refine ⟨m, .ref p, rfl, .inl ⟨kk, _, r.mac.ex (veil_le.trans (e1.trans e2)), hd, fun i hi => ?_, fun _ q2 H2 ls' e3 hq ok' hs => ?_⟩⟩
  · rw [hf] at hi; cases hi
  · have : ls' = ls := lat_inj (Option.some.inj (show some (ls'.map latP) = some (ls.map latP) from hs.symm))
    subst this
    exact q q2 H2 (e2.trans e3) (.tup hq (da_of dp_lat _))
theorem ht_window (Z : All P K mg x) (hr : Room 10 (A.deeper (envOfC "law" (defScope sLaw) s.heap.objs.size fa (.ref c)))) : HT (lawX P w K mg base fa c A s H0) (inFor 5) (N4 K T a ns) (N4 K T a ns) := by
  have B := Z.W.B
  refine ht_if (pt_cmpR op_ne (pe_callK0 (ok_win Z.D Z.W Z.T) (hr.mono (by decide)) (by rfl) Z.D.win.m Z.D.win.F.kp (kb_win Z) passF (pk_cons (pv 14) (pk_cons (pv 13) pk_nil))) (pe_win K (y := "_law_told") (j := 17) rfl rfl scLaw.nd B (by rfl) (pv 13) (blkOk_by (by rfl)) rfl rfl (by decide) (by decide)) (nomark _)) (pss_one (ps_ret pe_bl)) (fun σ H h => ?_) fun σ H H' h e => h.ex e
  obtain ⟨i, b, m, kk, l, ls, y3, y4, y5, y6, y7, y8, y9, y10, y12, y15, y16, rfl, r⟩ := h
  refine et_is (et_test (ev_neI (i := winOf ls) (j := winOf ls) (fun H1 e1 Q q => ?_) (ev_win (ev_var rfl) (st_of r.latH) (by rw [r.ok.len]; have := r.k14; omega) (by show 17 < 21; decide)))) (by simp)
  have hf : latFault kk (.tuple (ls.map latP)) = none := latFault_ok r.ok rfl
  refine ⟨_, rfl, _, rfl, m, .ref l, kk, _, rfl, r.mac.ex (veil_le.trans e1), r.latD.ex e1, fun i hi => ?_, fun _ ls' H2 ok' hs e2 => ?_⟩
  · rw [hf] at hi; cases hi
  · have : ls' = ls := lat_inj (Option.some.inj (show some (ls'.map latP) = some (ls.map latP) from hs.symm))
    subst this
    exact q H2 e2
/-- with the number behind -/
def N5 (K : Kf) (T a : Addr) (ns : List Int) (σ : L2.St) (H : Hp) : Prop := ∃ (i : Int) (b : Addr) (m : V) (kk : Nat) (l : Addr) (ls : Lat) (bh : Int) (y4 y5 y6 y7 y8 y9 y10 y12 y15 y16 : Option V), σ = St17 (some (.ref a)) (some (.int i)) (some (.int kk)) (some (.int bh)) y4 y5 y6 y7 y8 y9 y10 (some (.ref b)) y12 (some (.ref l)) (some m) y15 y16 ∧ R4 K T a ns b m kk l ls H ∧ 0 ≤ bh ∧ bh < 14
theorem ht_behind (Z : All P K mg x) (hr : Room 10 (A.deeper (envOfC "law" (defScope sLaw) s.heap.objs.size fa (.ref c)))) : HT (lawX P w K mg base fa c A s H0) (inFor 6) (N4 K T a ns) (N5 K T a ns) := by
  refine ⟨_, ps_set (i := 3) scLaw.nd rfl (.inr rfl) (pe_dfn (ok_take Z.R.take Z.W.B) Z.R.take (hr.mono (by decide)) (by rfl) (pa_cons (pv 11) (pa_cons pe_int pa_nil))), ?_⟩
  rintro D _ H ⟨i, b, m, kk, l, ls, y3, y4, y5, y6, y7, y8, y9, y10, y12, y15, y16, rfl, r⟩ k
  exact ⟨_, rfl, b, 14, rfl, r.box, by decide, by decide, fun bh H' b0 b1 bx => k _ _ ⟨i, b, m, kk, l, ls, bh, _, _, _, _, _, _, _, _, _, _, rfl, r.step (.bx r.box bx), b0, b1⟩⟩
/-- with the kinds due -/
def N6 (K : Kf) (T a : Addr) (ns : List Int) (σ : L2.St) (H : Hp) : Prop := ∃ (i : Int) (b : Addr) (m : V) (kk : Nat) (l : Addr) (ls : Lat) (bh : Int) (du : Addr) (y5 y6 y7 y8 y9 y10 y12 y15 y16 : Option V), σ = St17 (some (.ref a)) (some (.int i)) (some (.int kk)) (some (.int bh)) (some (.ref du)) y5 y6 y7 y8 y9 y10 (some (.ref b)) y12 (some (.ref l)) (some m) y15 y16 ∧ R4 K T a ns b m kk l ls H ∧
  H du = some (.tup ((kindsAt ls bh).map V.int))
theorem N6.ex {σ : L2.St} {H H' : Hp} (h : N6 K T a ns σ H) (e : Ex H H') : N6 K T a ns σ H' := by
  obtain ⟨i, b, m, kk, l, ls, bh, du, y5, y6, y7, y8, y9, y10, y12, y15, y16, rfl, r, hd⟩ := h
  exact ⟨i, b, m, kk, l, ls, bh, du, _, _, _, _, _, _, _, _, _, rfl, r.step (.of e), e _ _ hd⟩
theorem pt_inB (K : Kf) {X : Cx} {e f : Expr} {ta tb : TE} {pos : Pos} (hK : X.K = K) (ha : PE X e ta) (hb : PE X f tb) (hm : behindInMarks .In f = false) : PT X (.Compare e [.In] [f] pos) (tTest (tOp (rIn K false) ta tb)) := by
  rw [← hK]
  exact pt_cmpR op_in_seq ha hb hm
theorem inV_due {bh : Int} {t : Option Int} (h0 : 0 ≤ bh) (ht : ∀ y, t = some y → 0 ≤ y ∧ y < 13) : inV (latV t) ([V.non] ++ rgV bh 13) = openAt bh t := by
  have hfl : ∀ {q : V → Bool} {n : Nat}, ((List.range n).map fun i : Nat => V.int (bh + (i : Int))).any q = (List.range n).any fun i : Nat => q (V.int (bh + (i : Int))) := fun {q n} => by
    rw [List.any_map]; rfl
  cases t with
  | none => rfl
  | some y =>
    obtain ⟨y0, y1⟩ := ht y rfl
    show (eqV V.non (V.int y) || (rgV bh 13).any fun z => eqV z (V.int y)) = decide (bh ≤ y)
    have e1 : eqV V.non (V.int y) = false := rfl
    rw [e1, Bool.false_or]
    unfold rgV
    rw [hfl, Bool.eq_iff_iff, List.any_eq_true, decide_eq_true_eq]
    constructor
    · rintro ⟨i, hi, he⟩
      have he' : (bh + (i : Int) == y) = true := he
      have := beq_iff_eq.mp he'
      omega
    · intro hle
      refine ⟨(y - bh).toNat, List.mem_range.mpr (by omega), ?_⟩
      show (bh + ((y - bh).toNat : Int) == y) = true
      rw [beq_iff_eq]; omega
theorem flat_due {bh : Int} : ([V.non] ++ rgV bh 13).all flatV = true := by
  rw [List.all_append]
  unfold rgV
  rw [List.all_map]
  simp [flatV, Function.comp_def]
theorem ht_due (Z : All P K mg x) : HT (lawX P w K mg base fa c A s H0) (inFor 7) (N5 K T a ns) (N6 K T a ns) := by
  have B := Z.W.B
  refine ⟨_, ps_set (i := 4) scLaw.nd rfl (.inl rfl) (pe_tuple B (by rfl) (pe_lc (own := [("_law_kind", 18)]) rfl scLaw.nd (pi_range1 (by rfl) B.range (pa_cons (pv 2) pa_nil)) (blkOk_by (by rfl)) (fun _ _ _ _ _ => pg_name (i := 18) scLaw.nd rfl (Or.inl rfl))
    (fun _ _ _ _ _ => pts_one (pt_inB K rfl (pe_ixB K rfl (pv 13) (pv 18) (fun _ _ => rfl)) (pe_op op_cat (pe_lst (pa_cons pe_non pa_nil)) (pe_listRg rfl (by rfl) B.list (prg_2 (by rfl) B.range (pv 3) pe_int))) (by with_unfolding_all rfl))) (fun _ _ _ _ _ => pv 18))), ?_⟩
  rintro D _ H ⟨i, b, m, kk, l, ls, bh, y4, y5, y6, y7, y8, y9, y10, y12, y15, y16, rfl, r, b0, b1⟩ k
  have k4 := r.k14
  have q := el_lcR1 (σ := St17 (some (.ref a)) (some (.int i)) (some (.int kk)) (some (.int bh)) y4 y5 y6 y7 y8 y9 y10 (some (.ref b)) y12 (some (.ref l)) (some m) y15 y16) (H := H) (ta := tCons (tVar 2) tNil) (j := 18) (vs := [18]) (n := (kk : Int))
    (t := tTest (tOp (rIn K false) (tOp (rIx K) (tVar 13) (tVar 18)) (tOp rCat (tLst (tCons (tC .non) tNil)) (tLstRg (tRg2 (tVar 3) (tC (.int 13))))))) (te := tVar 18)
    (fun n => openAt bh ((ls[n]?).getD none)) (fun n => .int (n : Nat)) (ea_cons (ev_var rfl) ea_nil) (by omega) (fun x => rfl) (fun n H1 e1 hn => by
      obtain ⟨t, ht⟩ : ∃ t, ls[n]? = some t := ⟨_, List.getElem?_eq_getElem (by rw [r.ok.len]; omega)⟩
      rw [ht]
      have hv : Ev (tOp (rIx K) (tVar 13) (tVar 18)) ((wipe (St17 (some (.ref a)) (some (.int i)) (some (.int kk)) (some (.int bh)) y4 y5 y6 y7 y8 y9 y10 (some (.ref b)) y12 (some (.ref l)) (some m) y15 y16) [18]).set 18 (some (.int (n : Int)))) H1 (latV t) :=
        ev_ixT (ev_var rfl) (ev_var rfl) (st_of (e1 _ _ r.latH)) (atI_nat (by rw [List.getElem?_map, ht]; rfl))
      have hl : EvL (tOp rCat (tLst (tCons (tC .non) tNil)) (tLstRg (tRg2 (tVar 3) (tC (.int 13))))) ((wipe (St17 (some (.ref a)) (some (.int i)) (some (.int kk)) (some (.int bh)) y4 y5 y6 y7 y8 y9 y10 (some (.ref b)) y12 (some (.ref l)) (some m) y15 y16) [18]).set 18 (some (.int (n : Int)))) H1 ([V.non] ++ rgV bh 13) :=
        el_cat (el_lst (ea_cons ev_c ea_nil) (by show 1 ≤ 100000; decide)) (el_rg (ev_var rfl) ev_c (.of_le b0 (by decide) (by omega) (by decide))) (by rw [rgV_length]; show 1 + _ ≤ _; omega)
      refine et_is (et_test (ev_opL hv hl fun p H2 hp e2 => rv_isL (K := K) (sq_of hp) (by cases t <;> rfl) flat_due)) ?_
      exact inV_due b0 fun y e => by rw [e] at ht; exact r.ok.rng y (List.mem_of_getElem? ht)) (fun n H1 e1 hn _ => ev_var rfl)
  refine eu_tupleL q H (Ex.refl _) _ fun p H1 hp e1 h1 => k _ _ ⟨i, b, m, kk, l, ls, bh, p, _, _, _, _, _, _, _, _, _, rfl, r.step (.of e1), ?_⟩
  rw [h1]
  have hk : ((kk : Int)).toNat = ls.length := by rw [r.ok.len]; omega
  rw [hk]
  simp [kindsAt, given, List.map_map, Function.comp_def]
theorem ht_gap (Z : All P K mg x) (hr : Room 10 (A.deeper (envOfC "law" (defScope sLaw) s.heap.objs.size fa (.ref c)))) (hg : A.guards = some []) : HT (lawX P w K mg base fa c A s H0) (inFor 8) (N6 K T a ns) (N6 K T a ns) := by
  have B := Z.W.B
  have hu := hr.units
  refine ht_if (pt_cmpR op_ne (pe_repr (by exact hg) hu B (by rfl) (pe_callK (ok_gap Z.D Z.W Z.T) (hr.mono (by decide)) (by rfl) Z.D.gap.m Z.D.gap.F.kp (kb_gap Z) passF (pa_cons (pv 14) (pa_cons (pv 13) pa_nil)) (pk_cons (pv 3) pk_nil))) (pe_repr (by exact hg) hu B (by rfl) (pv 4)) (nomark _)) (pss_one (ps_ret pe_bl)) (fun σ H h => ?_) fun σ H H' h e => h.ex e
  obtain ⟨i, b, m, kk, l, ls, bh, du, y5, y6, y7, y8, y9, y10, y12, y15, y16, rfl, r, hdu⟩ := h
  have sm := sm_kinds (n := bh) (by rw [r.ok.len]; exact r.k14.2)
  refine ev_neS (x := PyData.shown (.tuple ((kindsAt ls bh).map PyData.int))) (ev_reprD (fun H1 e1 Q q => ?_) sm (by decide) (by decide)) (ev_repr (ev_var rfl) (.tup (st_of hdu) (da_ints _)) sm (by decide) (by decide))
  have hf : latFault kk (.tuple (ls.map latP)) = none := latFault_ok r.ok rfl
  refine ⟨_, rfl, _, rfl, _, rfl, m, .ref l, bh, rfl, .inl ⟨kk, _, r.mac.ex (veil_le.trans e1), r.latD.ex e1, fun i hi => ?_, fun _ ls' p H2 ok' hs e2 hp => ?_⟩⟩
  · rw [hf] at hi; cases hi
  · have : ls' = ls := lat_inj (Option.some.inj (show some (ls'.map latP) = some (ls.map latP) from hs.symm))
    subst this
    exact q p H2 e2 (.tup (st_of hp) (da_ints _))
end
end Fw
/-! law: the story, and that it comes back -/
namespace Fw
open PySem PySem.Spec PyProof.Rows L2 Evl LamX
theorem TaleV.veil {K : Kf} {b : Addr} {H : Hp} {v : V} {ls : Lat} {nw : List (Int × Int)} (h : TaleV K (hide b H) v ls nw) : TaleV K (veil (some b) H) v ls nw := ⟨dp_veil _ _ h.dp, h.ok, h.len⟩
theorem TaleV.ex {K : Kf} {H H' : Hp} {v : V} {ls : Lat} {nw : List (Int × Int)} (h : TaleV K H v ls nw) (e : Ex H H') : TaleV K H' v ls nw := ⟨h.dp.ex e, h.ok, h.len⟩
/-- the told story in one of its forms -/
theorem story_forms {ls : Lat} {nw : List (Int × Int)} (h : okFrom ls [] nw) (hn : nw.length ≤ 9) {d : PyData} (hd : d = .list (nw.map newsP) ∨ d = .list (nw.map rowQ)) : toldFault ls d = none ∧ (itemsD d).map toTupP = nw.map newsP := by
  rcases hd with rfl | rfl
  · refine ⟨toldFault_ok (ds := nw.map newsP) h rfl (by rw [List.length_map]) (by omega) fun j p d hp hd => ?_, ?_⟩
    · rw [List.getElem?_map, hp] at hd
      cases hd
      rfl
    · show (nw.map newsP).map toTupP = _
      rw [List.map_map]
      rfl
  · refine ⟨toldFault_ok (ds := nw.map rowQ) h rfl (by rw [List.length_map]) (by omega) fun j p d hp hd => ?_, ?_⟩
    · rw [List.getElem?_map, hp] at hd
      cases hd
      rfl
    · show (nw.map rowQ).map toTupP = _
      rw [List.map_map]
      rfl
section
variable {P : Program} {w : World} {K : Kf} {mg : Str → Option Value} {base : Heap} {x : Ad} {fa c T : Addr} {A : Around} {s : Shared} {H0 : Hp} {a : Addr} {ns : List Int}
/-- with a story -/
def N7 (K : Kf) (T a : Addr) (ns : List Int) (σ : L2.St) (H : Hp) : Prop := ∃ (i : Int) (b : Addr) (m : V) (kk : Nat) (l : Addr) (ls : Lat) (v : V) (nw : List (Int × Int)) (y3 y4 y6 y7 y8 y9 y10 y12 y15 y16 : Option V), σ = St17 (some (.ref a)) (some (.int i)) (some (.int kk)) y3 y4 (some v) y6 y7 y8 y9 y10 (some (.ref b)) y12 (some (.ref l)) (some m) y15 y16 ∧ R4 K T a ns b m kk l ls H ∧
  TaleV K (veil (some b) H) v ls nw
theorem ht_tale (Z : All P K mg x) (hr : Room 10 (A.deeper (envOfC "law" (defScope sLaw) s.heap.objs.size fa (.ref c)))) : HT (lawX P w K mg base fa c A s H0) (inFor 9) (N6 K T a ns) (N7 K T a ns) := by
  refine ⟨_, ps_set (i := 5) scLaw.nd rfl (.inl rfl) (pe_dfn (ok_tale Z.tale Z.R Z.W.B) Z.tale (hr.mono (by decide)) (by rfl) (pa_cons (pv 11) (pa_cons (pv 13) (pa_cons (pe_dfn (ok_pick Z.R.pick Z.R.take Z.W.B) Z.R.pick (hr.mono (by decide)) (by rfl) (pa_cons (pv 11) (pa_cons (pe_lst (pa_cons pe_int (pa_cons pe_int (pa_cons pe_int (pa_cons pe_int pa_nil))))) pa_nil))) (pa_cons pe_int pa_nil))))), ?_⟩
  rintro D _ H ⟨i, b, m, kk, l, ls, bh, du, y5, y6, y7, y8, y9, y10, y12, y15, y16, rfl, r, hdu⟩ k
  refine ⟨_, rfl, _, rfl, _, rfl, sz_of (by show 4 ≤ 100000; decide), fun pl hpl => ?_⟩
  have e1 : Ex H (upd H pl (.lst [.int 0, .int 3, .int 6, .int 9])) := Ex.new hpl
  refine ⟨b, pl, _, rfl, r.box.ex e1, ne_box r.box hpl, upd_same, by show 0 < 4; decide, by show 4 ≤ 1000; decide, fun v H1 hv bx1 => ?_⟩
  obtain ⟨n, rfl, hn⟩ : ∃ n : Nat, v = .int n ∧ n ≤ 9 := by
    simp at hv
    rcases hv with rfl | rfl | rfl | rfl
    · exact ⟨0, rfl, by decide⟩
    · exact ⟨3, rfl, by decide⟩
    · exact ⟨6, rfl, by decide⟩
    · exact ⟨9, rfl, by decide⟩
  have v1 : Vs T b H H1 := (Vs.of e1).trans (.bx (r.box.ex e1) bx1)
  have r1 := r.step v1
  exact ⟨b, l, n, kk, ls, rfl, r1.box, r1.lb, r1.latH, r1.ok, r1.k14.1, r1.k14.2, hn, fun v H2 nw bx2 ht => k _ _ ⟨i, b, m, kk, l, ls, v, nw, _, _, _, _, _, _, _, _, _, _, rfl, r1.step (.bx r1.box bx2), ht.veil⟩⟩
theorem ht_told (Z : All P K mg x) (hr : Room 10 (A.deeper (envOfC "law" (defScope sLaw) s.heap.objs.size fa (.ref c)))) (hg : A.guards = some []) : HT (lawX P w K mg base fa c A s H0) (inFor 10) (N7 K T a ns) (N7 K T a ns) := by
  have B := Z.W.B
  have hu := hr.units
  refine ⟨_, ps_if (pt_cmpR op_ne (pe_repr (by exact hg) hu B (by rfl) (pe_callK (ok_told Z.told Z.D Z.W Z.T) (hr.mono (by decide)) (by rfl) Z.told.m Z.told.F.kp (kb_told Z) passF (pa_cons (pv 14) pa_nil) (pk_cons (pv 13) (pk_cons (pe_dfn (ok_pick Z.R.pick Z.R.take Z.W.B) Z.R.pick (hr.mono (by decide)) (by rfl) (pa_cons (pv 11) (pa_cons (pe_lst (pa_cons (pe_list B (by rfl) (pv 5))
      (pa_cons (pe_lc (own := [("_law_news", 19)]) rfl scLaw.nd (pi_seq (pv 5)) (blkOk_by (by rfl)) (fun _ _ _ _ _ => pg_name (i := 19) scLaw.nd rfl (Or.inl rfl)) (fun _ _ _ _ _ => pts_nil) (fun _ _ _ _ _ => pe_listB K rfl B (by rfl) (pv 19))) pa_nil))) pa_nil))) pk_nil))))
      (pe_repr (by exact hg) hu B (by rfl) (pv 5)) (nomark _)) (pss_one (ps_ret pe_bl)) pss_nil, ?_⟩
  rintro D _ H ⟨i, b, m, kk, l, ls, v, nw, y3, y4, y6, y7, y8, y9, y10, y12, y15, y16, rfl, r, ht⟩ k
  obtain ⟨sa, sx, rfl, hsq, hsa⟩ := dp_seq ht.dp (show seqD (.tuple (nw.map newsP)) = some (nw.map newsP) from rfl)
  have hsl : sx.length = nw.length := by rw [da_len hsa, List.length_map]
  have sm := sm_tale ht.ok (by rw [r.ok.len]; exact r.k14.2) ht.len
  refine ⟨_, rfl, _, rfl, _, rfl, _, rfl, sa, sx, rfl, hsq.ex veil_le, fun p1 hp1 => ?_⟩
  have e1 : Ex H (upd H p1 (.lst sx)) := Ex.new hp1
  have f1 : (upd H p1 (.lst sx)) p1 = some (.lst sx) := upd_same
  generalize upd H p1 (.lst sx) = H1 at e1 f1
  have hb1 := r.box.ex e1
  refine lc_new (K := K) (tl := tVar 5) (σ := St17 (some (.ref a)) (some (.int i)) (some (.int kk)) y3 y4 (some (.ref sa)) y6 y7 y8 y9 y10 (some (.ref b)) y12 (some (.ref l)) (some m) y15 y16) (H := H1) (j := 19) (vs := [19]) (te := tCB (rListS K) (tCons (tVar 19) tNil)) (es_of (ev_var rfl) (hsq.ex (veil_le.trans e1))) (by rw [hsl]; have := ht.len; omega) (fun x => rfl)
    (fun i G y => ∃ p, nw[i]? = some p ∧ ∃ r, y = .ref r ∧ G r = some (.lst [.int p.1, .int p.2]) ∧ H1 r = none) (fun i y G G' e ⟨p, h1, r, h2, h3, h4⟩ => ⟨p, h1, r, h2, e _ _ h3, h4⟩) (fun i x Dl H2 hx e2 hDn hDf Qn kn => by
      obtain ⟨d, hd1, hd2⟩ := da_get hsa hx
      rw [List.getElem?_map] at hd1
      obtain ⟨p, hp, rfl⟩ := Option.map_eq_some_iff.mp hd1
      obtain ⟨r0, us, rfl, hq0, hu0⟩ := dp_seq (hd2.ex (veil_le.trans (e1.trans e2))) (show seqD (newsP p) = some [.int p.1, .int p.2] from rfl)
      have eu : us = [.int p.1, .int p.2] := da_intsInv (ns := [p.1, p.2]) hu0
      subst eu
      exact ⟨_, rfl, r0, _, rfl, hq0, fun l hl => kn _ _ (Ex.new hl) ⟨p, hp, l, rfl, hide_at upd_same (fun z => hDn (z ▸ hl)), fresh_back e2 hl⟩⟩) H1 (Ex.refl _) _ fun p2 H2 acc e2 hp2f hp2 hal hP => ⟨sz_of (by show 2 ≤ 100000; decide), fun pl hpl => ?_⟩
  have e3 : Ex H2 (upd H2 pl (.lst [.ref p1, .ref p2])) := Ex.new hpl
  have hb2 := hb1.ex e2
  refine ⟨b, pl, _, rfl, hb2.ex e3, ne_box hb2 hpl, upd_same, by show 0 < 2; decide, by show 2 ≤ 1000; decide, fun xv H3 hx bx3 => ?_⟩
  have e12 := e2.trans e3
  have v3 : Vs T b H H3 := (Vs.of (e1.trans e12)).trans (.bx (hb1.ex e12) bx3)
  have r3 := r.step v3
  have p1b : p1 ≠ b := ne_box r.box hp1
  have p2b : p2 ≠ b := ne_box hb1 hp2f
  have hsa3 : DpAll K H3 sx (nw.map newsP) := (hsa.ex v3.ex).ex veil_le
  obtain ⟨d, hdx, hforms⟩ : ∃ d, Dp K H3 xv d ∧ (d = .list (nw.map newsP) ∨ d = .list (nw.map rowQ)) := by
    simp at hx
    rcases hx with rfl | rfl
    · exact ⟨_, .lst (sq_of (bx3.keep p1 _ p1b (e12 _ _ f1))) hsa3, .inl rfl⟩
    · refine ⟨_, .lst (sq_of (bx3.keep p2 _ p2b (e3 _ _ hp2))) (da_mk (by rw [hal, List.length_map, hsl]) fun n y d hy hd => ?_), .inr rfl⟩
      obtain ⟨p, h1, q, rfl, h3, h4⟩ := hP n y hy
      rw [List.getElem?_map, h1] at hd
      cases hd
      exact .lst (sq_of (bx3.keep q _ (ne_box hb1 h4) (e3 _ _ (hide_le _ _ h3)))) (da_ints [p.1, p.2])
  obtain ⟨hfn, hit⟩ := story_forms ht.ok ht.len hforms
  have hf : latFault kk (.tuple (ls.map latP)) = none := latFault_ok r.ok rfl
  refine ⟨m, .ref l, xv, kk, _, d, rfl, r3.mac.ex veil_le, r3.latD, hdx, (fun i hi => by rw [hf] at hi; cases hi), fun _ ls' ok' hs => ?_⟩
  have el : ls' = ls := lat_inj (Option.some.inj (show some (ls'.map latP) = some (ls.map latP) from hs.symm))
  subst el
  refine ⟨fun i hi => (by rw [hfn] at hi; cases hi), fun _ rv H4 e4 hrv => ?_⟩
  rw [hit] at hrv
  obtain ⟨ra, rx, rfl, _, _⟩ := dp_seq hrv (show seqD (.tuple (nw.map newsP)) = some (nw.map newsP) from rfl)
  have v4 := v3.trans (Vs.of e4)
  have ht4 := ht.ex v4.ex
  refine ⟨ra, _, rfl, hrv, sm.shw, sm.nod, Nat.le_trans sm.dep (by decide), sm.fits (by decide) (by decide), _, rfl, sa, _, rfl, ht4.dp.ex veil_le, sm.shw, sm.nod, Nat.le_trans sm.dep (by decide), sm.fits (by decide) (by decide), rfl, _, rfl, ?_⟩
  refine iteNS rfl ?_
  exact k _ _ ⟨i, b, m, kk, l, _, _, nw, _, _, _, _, _, _, _, _, _, _, rfl, r.step v4, ht4⟩
end
/-- for x in range(n): x in slot j -/
theorem ht_for {X : Cx} {y : Str} {j : Nat} {n : Int} {body : List Stmt} {p p2 p3 p4 : Pos} {kc : Nat} {Pre Mid : L2.St → Hp → Prop} (hp : PassesOwn (model X.prog X.w) X.A X.env X.xe) (hc : X.calm = true) (B : Blt X.mg) (hgr : Gl X "range") (hN : X.N.Nodup) (hj : X.N[j]? = some y) (hy : X.env.scope.names.lookup y = some .local)
    (hn : 0 ≤ n ∧ n ≤ 1000) (hb : HTs X body Mid Pre) (hm : ∀ σ H (i : Nat), (i : Int) < n → Pre σ H → Mid (σ.set j (some (.int (i : Int)))) H)
    (hs : starEach [.Constant (.int n) kc p] X.env = (false, eval (.Constant (.int n) kc p) X.env) :: starEach [] X.env := by rfl) : HT X (.For (.Name y p2) (.Call (.Name "range" p3) [.Constant (.int n) kc p] [] p4) body [] p5) Pre Pre := by
  obtain ⟨t, ht, hr⟩ := hb
  refine ⟨_, ps_for hp hc (pi_range1 hgr B.range (pa_cons pe_int pa_nil hs) hs) (pg_name (i := j) hN hj (.inl hy) (.inr hy)) ht, fun D σ H h k => ?_⟩
  refine ⟨n, rfl, by omega, by omega, for_it walk_range (fun _ σ H => Pre σ H) h (fun _ _ _ _ _ => trivial) (fun i v σ1 H1 H2 hi hp1 hy1 => ?_) fun σ1 H1 h1 => k σ1 H1 h1⟩
  obtain ⟨rfl, rfl⟩ := hy1
  refine hr _ _ _ ?_ fun σ' H' h' => h'
  show Mid (σ1.set j (some (.int ((0 : Int) + (i : Int))))) _
  rw [Int.zero_add]
  exact hm σ1 _ i (by omega) hp1
end Fw
/-! law: works that end in an error -/
namespace Fw
open PySem PySem.Spec PyProof.Rows L2 Evl LamX
/-! ### a lambda of law's, as a work -/
theorem ends_lam {P : Program} {w : World} {K : Kf} {mg : Str → Option Value} {B : Heap} {N : List Str} {σ : L2.St} {F : Lm} {f : Addr} {H : Hp} {k : Nat} {S : Addr → Prop} {o : Option (Addr × Int)} {tb : XK → TE} (L : LamP F.scope) (C : CellsIn B N σ F) (hf : H f = some (LamO f F)) (hc : H F.c = some (CodeO F.c F.qual))
    (hbind : ∀ pm ctv : Value, bindArgs (PySem.W.kla_fn "<lambda>" F.qual F.params F.body F.scope F.cl pm (.ref F.c) ctv) ⟨[], []⟩ = pure [])
    (hbody : ∀ (A : Around) (outer : List Env) (s : Shared) (E : XK), Room k (A.deeper (PySem.W.envX F.qual F.scope s.heap.objs.size f (.ref F.c) F.cl)) → PE (lamK P w K mg B N F f A outer s H E) F.body (tb E))
    (ht : ∀ (Qw : VK) (Ew : XK), (o = none → ∀ v H', Bx S H H' → Qw v H') → (∀ C i, o = some (C, i) → ∀ d H', Bx S H H' → H' d = some (.xd [("at", .int i)]) → Ew (.ref C) (some d) H') → tb Ew σ H Qw) : Ends1 P w K mg B (k + 1) f H S o :=
  fun Qw Ew h1 h2 => lam_work L C hf hc hbind (fun A outer s hr => hbody A outer s Ew hr) (ht Qw Ew h1 h2)
/-- a lambda of the text, its cells those of law's frame -/
def theLam (cells : List (Str × Addr)) (e : Expr) (c' : Addr) : Lm := match e with
  | .Lambda p b s _ => ⟨qLam, p, b, s, cloFrom cells s.names [], c'⟩
  | _ => ⟨qLam, { posonlyargs := [], args := [], vararg := none, kwonlyargs := [], kw_defaults := [], kwarg := none, defaults := [] }, e, { kind := .function, names := [], isGenerator := false, isCoroutine := false }, [], c'⟩
section
variable {P : Program} {w : World} {K : Kf} {mg : Str → Option Value} {base : Heap} {x : Ad} {fa c T : Addr} {A : Around} {s : Shared} {H0 : Hp} {a : Addr} {ns : List Int}
theorem law_plain : CellsPlain (lawX P w K mg base fa c A s H0) := fun q hq => cells_plain (names := (defScope sLaw).names) (acc := []) (by decide +kernel) (fun p hp => by simp at hp) (fun p hp => by simp at hp) q hq
theorem law_inj : ∀ y z e, (lawX P w K mg base fa c A s H0).env.cells.lookup y = some e → (lawX P w K mg base fa c A s H0).env.cells.lookup z = some e → y = z := fun y z e h1 h2 =>
  cells_one (names := (defScope sLaw).names) (n := s.heap.objs.size + 1) (acc := []) (fun p hp => by simp at hp) (fun p hp => by simp at hp) (y, e) (PySem.mem_of_lookup h1) (z, e) (PySem.mem_of_lookup h2) rfl
/-- the names a scope captures, with their places -/
def capB (scope : Scope) (ix : List (Str × Nat)) : Bool := (scope.names.all fun y => !decide (y.2 = .free) || (decide (scope.names.lookup y.1 = some .free) && ix.any fun p => decide (p.1 = y.1))) &&
  ix.all fun p => decide (nLaw[p.2]? = some p.1) && decide ((defScope sLaw).names.lookup p.1 = some .cell)
theorem law_cells {σ : L2.St} {B : Heap} {p : Arguments} {e : Expr} {scope : Scope} {c' : Addr} (ix : List (Str × Nat)) (C : CellsOk (lawX P w K mg base fa c A s H0) σ B) (hl : σ.length = 21) (hb : capB scope ix = true) (hv : ∀ q ∈ ix, ∃ v, σ[q.2]? = some (some v)) :
    CellsIn B nLaw σ ⟨qLam, p, e, scope, cloFrom (lawX P w K mg base fa c A s H0).env.cells scope.names [], c'⟩ := by
  have hb' : ((scope.names.all fun y => !decide (y.2 = .free) || (decide (scope.names.lookup y.1 = some .free) && ix.any fun p => decide (p.1 = y.1))) && ix.all fun p => decide (nLaw[p.2]? = some p.1) && decide ((defScope sLaw).names.lookup p.1 = some .cell)) = true := hb
  rw [Bool.and_eq_true, List.all_eq_true, List.all_eq_true] at hb'
  obtain ⟨h1, h2⟩ := hb'
  have h1' : ∀ y ∈ scope.names, y.2 = .free → scope.names.lookup y.1 = some .free ∧ ∃ q ∈ ix, q.1 = y.1 := fun y hy e => by
    have := h1 y hy
    simp only [e, Bool.or_eq_true, Bool.not_eq_true', decide_eq_false_iff_not, not_true_eq_false, false_or, Bool.and_eq_true, decide_eq_true_eq, List.any_eq_true] at this
    exact this
  refine cells_lam (X := lawX P w K mg base fa c A s H0) C hl scLaw.nd law_inj (fun y hy => ?_) fun y hy e => (h1' y hy e).1
  obtain ⟨_, q, hq, e⟩ := h1' _ (PySem.mem_of_lookup hy) rfl
  have := h2 q hq
  simp only [Bool.and_eq_true, decide_eq_true_eq] at this
  obtain ⟨v, hv⟩ := hv q hq
  have e' : q.1 = y := e
  exact ⟨q.2, v, (by rw [← e']; exact this.1), hv, by rw [← e']; exact this.2⟩
end
theorem lam_binds {cells : List (Str × Addr)} {b : Expr} {sc : Scope} {cv : Value} : ∀ pm ctv : Value, bindArgs (PySem.W.kla_fn "<lambda>" qLam { posonlyargs := [], args := [], vararg := none, kwonlyargs := [], kw_defaults := [], kwarg := none, defaults := [] } b sc cells pm cv ctv) ⟨[], []⟩ = pure [] := fun _ _ => rfl
/-! ### what the errors say, compared -/
theorem eqv_pair (nm : Str) (i : Int) : PyData.eqv (.tuple [.str nm, .int i]) (.tuple [.str nm, .int i]) = true := by simp [PyData.eqv, PyData.eqvAll]
theorem shaped_pair {nm : Str} (h : PyData.strOk nm = true) (i : Int) : SeqAt.shaped (.tuple [.str nm, .int i]) = true := by
  unfold SeqAt.shaped
  simp [PyData.canLay0, PyData.canLayAll0, PyData.depth, PyData.depthAll, h]
theorem dp_pair {K : Kf} {H : Hp} {p : Addr} {nm : Str} {i : Int} (h : H p = some (.tup [.str nm, .int i])) : Dp K H (.ref p) (.tuple [.str nm, .int i]) := .tup (st_of h) (.cons (.str nm) (.cons (.int i) .nil))
theorem ne_same {K : Kf} {p q : Addr} {nm : Str} {i : Int} {H : Hp} {Q : VK} (h1 : H p = some (.tup [.str nm, .int i])) (h2 : H q = some (.tup [.str nm, .int i])) (hs : PyData.strOk nm = true) (k : Q (.bl false) H) : rNeD K (.ref p) (.ref q) H Q := by
  refine ⟨_, _, dp_pair h1, dp_pair h2, shaped_pair hs i, shaped_pair hs i, ?_⟩
  rw [eqv_pair]
  exact k
theorem ne_nones {K : Kf} {H : Hp} {Q : VK} (k : Q (.bl false) H) : rNeD K .non .non H Q := by
  refine ⟨.none, .none, .non, .non, by unfold SeqAt.shaped; simp [PyData.canLay0, PyData.depth], by unfold SeqAt.shaped; simp [PyData.canLay0, PyData.depth], ?_⟩
  have : PyData.eqv .none .none = true := by simp [PyData.eqv]
  rw [this]
  exact k
theorem strok_story : PyData.strOk "story" = true := by decide +kernel
theorem strok_late : PyData.strOk "lateness" = true := by decide +kernel
theorem strok_mach : PyData.strOk "machine" = true := by decide +kernel
section
variable {P : Program} {w : World} {K : Kf} {mg : Str → Option Value} {base : Heap} {x : Ad} {fa c T : Addr} {A : Around} {s : Shared} {H0 : Hp} {a : Addr} {ns : List Int}
/-- _law_error over any ground -/
theorem err_any (Z : All P K mg x) : ∀ B : Heap, K.In B → B.Ns mainGlobals mg → FnOk P w K mg B CX0 9 x.err.a x.err.d ["_law_work"] (spErr P w K mg x.CM x.CL x.CS 8 B) := fun B _ _ => ok_err Z.err Z.T Z.X
/-! ### the turns with a spoilt story -/
def inTurn (i : Nat) : Stmt := (forBody (inFor 11)).getD i (.Pass ⟨0, 0, 0, 0⟩)
/-- with a spoilt story -/
def N8 (K : Kf) (T a : Addr) (ns : List Int) (σ : L2.St) (H : Hp) : Prop := ∃ (i : Int) (b : Addr) (m : V) (kk : Nat) (l : Addr) (ls : Lat) (v : V) (nw : List (Int × Int)) (y : V) (d : PyData) (y3 y4 y6 y7 y8 y9 y10 y12 y16 : Option V), σ = St17 (some (.ref a)) (some (.int i)) (some (.int kk)) y3 y4 (some v) y6 y7 y8 y9 y10 (some (.ref b)) y12 (some (.ref l)) (some m) (some y) y16 ∧ R4 K T a ns b m kk l ls H ∧
  TaleV K (veil (some b) H) v ls nw ∧ Dp K (veil (some b) H) y d
theorem ht_spoil (Z : All P K mg x) (hr : Room 10 (A.deeper (envOfC "law" (defScope sLaw) s.heap.objs.size fa (.ref c)))) : HT (lawX P w K mg base fa c A s H0) (inTurn 0) (N7 K T a ns) (N8 K T a ns) := by
  refine ⟨_, ps_set (i := 15) scLaw.nd rfl (.inr rfl) (pe_dfn (ok_spoil Z.spoil Z.R Z.W.B) Z.spoil (hr.mono (by decide)) (by rfl) (pa_cons (pv 11) (pa_cons (pv 5) (pa_cons (pv 2) pa_nil)))), ?_⟩
  rintro D _ H ⟨i, b, m, kk, l, ls, v, nw, y3, y4, y6, y7, y8, y9, y10, y12, y15, y16, rfl, r, ht⟩ k
  refine ⟨_, rfl, _, rfl, _, rfl, b, v, kk, nw, rfl, r.box, ht.dp.ex veil_hide, ht.len, r.k14.1, r.k14.2, fun y H' d bx hd => ?_⟩
  have v1 : Vs T b H H' := .bx r.box bx
  exact k _ _ ⟨i, b, m, kk, l, ls, v, nw, y, d, _, _, _, _, _, _, _, _, _, rfl, r.step v1, ht.ex v1.ex, dp_veil _ _ hd⟩
/-- with its fault -/
def N9 (K : Kf) (T a : Addr) (ns : List Int) (σ : L2.St) (H : Hp) : Prop := ∃ (i : Int) (b : Addr) (m : V) (kk : Nat) (l : Addr) (ls : Lat) (v : V) (nw : List (Int × Int)) (y : V) (d : PyData) (y3 y4 y6 y8 y9 y10 y12 y16 : Option V), σ = St17 (some (.ref a)) (some (.int i)) (some (.int kk)) y3 y4 (some v) y6 (some (outV (toldFault ls d))) y8 y9 y10 (some (.ref b)) y12 (some (.ref l)) (some m) (some y) y16 ∧ R4 K T a ns b m kk l ls H ∧
  TaleV K (veil (some b) H) v ls nw ∧ Dp K (veil (some b) H) y d
theorem ht_fault (Z : All P K mg x) (hr : Room 10 (A.deeper (envOfC "law" (defScope sLaw) s.heap.objs.size fa (.ref c)))) : HT (lawX P w K mg base fa c A s H0) (inTurn 1) (N8 K T a ns) (N9 K T a ns) := by
  refine ⟨_, ps_set (i := 7) scLaw.nd rfl (.inl rfl) (pe_dfn (ok_fault Z.fault Z.lib Z.W.B) Z.fault (hr.mono (by decide)) (by rfl) (pa_cons (pv 15) (pa_cons (pv 13) pa_nil))), ?_⟩
  rintro D _ H ⟨i, b, m, kk, l, ls, v, nw, y, d, y3, y4, y6, y7, y8, y9, y10, y12, y16, rfl, r, ht, hd⟩ k
  refine s_asg (ev_val (R := RFault K) (vs := [y, .ref l]) (ea_cons (ev_var rfl) (ea_cons (ev_var rfl) ea_nil)) rfl fun H1 e1 => ⟨y, l, d, ls, rfl, (hd.ex veil_le).ex e1, st_of (e1 _ _ r.latH), rfl⟩) fun H1 e1 => k _ _ ?_
  exact ⟨i, b, m, kk, l, ls, v, nw, y, d, _, _, _, _, _, _, _, _, rfl, r.step (.of e1), ht.ex (veil_ex e1), hd.ex (veil_ex e1)⟩
theorem ht_wrongs (Z : All P K mg x) (hr : Room 10 (A.deeper (envOfC "law" (defScope sLaw) s.heap.objs.size fa (.ref c)))) (TB : TabB base mg c T) : HT (lawX P w K mg base fa c A s H0) (inTurn 2) (N9 K T a ns) (N7 K T a ns) := by
  have B := Z.W.B
  have hu := hr.units
  refine ⟨_, ps_if (pt_cmpR (op_neD hu) (pe_up (gives_own law_plain fun _ => rfl) (err_any Z) (hr.mono (by decide)) (by rfl) Z.err.m Z.err.F.kp Z.err.b (pa_cons (pe_lamb (q := qLam) TB rfl (by rfl) (lamS_by (by rfl))) pa_nil))
      (pe_ifExp (pt_cmpR op_isN (pv 7) pe_non (nomark _)) pe_non (pe_tup (pa_cons pe_str (pa_cons (pv 7) pa_nil)))) (nomark _)) (pss_one (ps_ret pe_bl)) pss_nil, ?_⟩
  rintro D _ H ⟨i, b, m, kk, l, ls, v, nw, y, d, y3, y4, y6, y8, y9, y10, y12, y16, rfl, r, ht, hd⟩ k
  refine ⟨r.tab, fun f c' H1 eN T1 hf0 hf hc => fun B1 hK1 hN1 hC => ?_⟩
  have v1 : Vs T b H H1 := .lam eN T1
  have r1 := r.step v1
  have hd1 := hd.ex v1.ex
  have hfl : latFault kk (.tuple (ls.map latP)) = none := latFault_ok r.ok rfl
  have fin : ∀ {H2 : Hp}, Ex H1 H2 → D.nx (St17 (some (.ref a)) (some (.int i)) (some (.int kk)) y3 y4 (some v) y6 (some (outV (toldFault ls d))) y8 y9 y10 (some (.ref b)) y12 (some (.ref l)) (some m) (some y) y16) H2 := fun {H2} e => by
    have v2 := v1.trans (Vs.of e)
    exact k _ _ ⟨i, b, m, kk, l, ls, v, nw, _, _, _, _, _, _, _, _, _, _, rfl, r.step v2, ht.ex v2.ex⟩
  refine ⟨f, _, noB, (toldFault ls d).map fun j => (x.CS, j), rfl, hf, fun _ z => z.elim, ends_lam (k := 7) (lamP_by (by rfl)) (law_cells [("_law_lateness_here", 13), ("_law_machine_here", 14), ("_law_spoilt_here", 15)] hC rfl (by decide +kernel) (fun q hq => ?_)) hf hc lam_binds
    (fun A2 outer s2 E hr2 => pe_dfx (W := fun cls d _ H => E cls d H) (ok_told Z.told Z.D Z.W Z.T) Z.told hr2 (by rfl) (takes_of rfl rfl rfl rfl) (pa_cons (pv 14) (pa_cons (pv 13) (pa_cons (pv 15) pa_nil)))) (fun Qw Ew h1 h2 => ?_), fun ho H2 bx => ?_, fun C j ho => ?_⟩
  · simp at hq
    rcases hq with rfl | rfl | rfl
    · exact ⟨_, rfl⟩
    · exact ⟨_, rfl⟩
    · exact ⟨_, rfl⟩
  · refine ⟨_, rfl, _, rfl, _, rfl, m, .ref l, y, kk, _, d, rfl, r1.mac.ex veil_le, r1.latD, hd1.ex veil_le, (fun i hi => by rw [hfl] at hi; cases hi), fun _ ls' ok' hs => ?_⟩
    have el : ls' = ls := lat_inj (Option.some.inj (show some (ls'.map latP) = some (ls.map latP) from hs.symm))
    subst el
    exact ⟨fun j hj d' H' e hd' => h2 x.CS j (by rw [hj]; rfl) d' H' (.of e) hd', fun hn rv H' e _ => h1 (by rw [hn]; rfl) rv H' (.of e)⟩
  · have hn : toldFault ls d = none := by cases h : toldFault ls d <;> simp_all
    rw [hn] at fin ⊢
    refine (ev_if (b := true) (et_test (ev_op (ev_var (v := .non) rfl) ev_c fun H3 e3 Q3 q3 => ⟨rfl, by simpa using q3 H3 (Ex.refl _)⟩)) (fun _ => ev_c (v := .non)) (fun z => nomatch z) : Ev (tIf (tTest (tOp (fun x y H Q => y = .non ∧ Q (.bl (decide (x = .non))) H) (tVar 7) (tC .non))) (tC .non) _) _ H2 .non) H2 (Ex.refl _) _ fun H3 e3 => ne_nones ⟨false, rfl, iteF (fin (bx.ex.trans e3))⟩
  · obtain ⟨j', hj, e⟩ := Option.map_eq_some_iff.mp ho
    cases e
    rw [hj] at fin ⊢
    refine ⟨"story", .inr (.inr ⟨rfl, rfl⟩), fun p H2 bx hp0 _ hp => ?_⟩
    have tst : EvT (tTest (tOp (fun x y H Q => y = .non ∧ Q (.bl (decide (x = .non))) H) (tVar 7) (tC .non))) (St17 (some (.ref a)) (some (.int i)) (some (.int kk)) y3 y4 (some v) y6 (some (outV (some j))) y8 y9 y10 (some (.ref b)) y12 (some (.ref l)) (some m) (some y) y16) H2 false :=
      et_test (ev_op (ev_var (v := .int j) rfl) ev_c fun H3 e3 Q3 q3 => ⟨rfl, by simpa using q3 H3 (Ex.refl _)⟩)
    refine tst H2 (Ex.refl _) _ fun H3 e3 => iteF ⟨_, rfl, sz_of (by show 2 ≤ 100000; decide), fun p2 hp2 => ?_⟩
    exact ne_same (Ex.new hp2 _ _ (e3 _ _ hp)) upd_same strok_story ⟨false, rfl, iteF (fin ((bx.ex.trans e3).trans (Ex.new hp2)))⟩
theorem ht_turns (Z : All P K mg x) (hr : Room 10 (A.deeper (envOfC "law" (defScope sLaw) s.heap.objs.size fa (.ref c)))) (TB : TabB base mg c T) : HT (lawX P w K mg base fa c A s H0) (inFor 11) (N7 K T a ns) (N7 K T a ns) :=
  ht_for (j := 6) (body := [inTurn 0, inTurn 1, inTurn 2]) (passes_of rfl) rfl Z.W.B (by rfl) scLaw.nd rfl rfl (by decide) (ht_cons (ht_spoil Z hr) (ht_cons (ht_fault Z hr) (ht_one (ht_wrongs Z hr TB)))) fun σ H j hj h => by
    obtain ⟨i, b, m, kk, l, ls, v, nw, y3, y4, y6, y7, y8, y9, y10, y12, y15, y16, rfl, r, ht⟩ := h
    exact ⟨i, b, m, kk, l, ls, v, nw, _, _, _, _, _, _, _, _, _, _, rfl, r, ht⟩
end
end Fw
/-! law: lateness spoilt, and the works over it -/
namespace Fw
open PySem PySem.Spec PyProof.Rows L2 Evl LamX
/-! ### tuples that come -/
section
variable {K : Kf} {σ : L2.St} {H : Hp} {te ta tb : TE} {tl th : TO}
def EvP (K : Kf) (te : TE) (σ : L2.St) (H : Hp) (xs : List V) : Prop := ∀ H1, Ex H H1 → ∀ Q : VK, (∀ p H2, Ex H1 H2 → SqT K H2 p xs → Q (.ref p) H2) → te σ H1 Q
theorem ep_U {xs : List V} (h : EvU te σ H xs) : EvP K te σ H xs := fun H1 e Q q => h H1 e _ fun p H2 _ e2 hp => q p H2 e2 (st_of hp)
theorem ep_sl {a : Addr} {xs : List V} {lo hi : Option Int} (h : Ev te σ H (.ref a)) (h1 : EvO tl σ H lo) (h2 : EvO th σ H hi) (hs : SqT K H a xs) (hn : ¬ (HT.sIx xs.length 0 lo = 0 ∧ HT.sIx xs.length xs.length hi = xs.length)) : EvP K (tSl (rSlT K) te tl th) σ H (cutV xs lo hi) := fun H1 e Q q =>
  h H1 e _ fun H2 e2 => h1 H2 (e.trans e2) _ fun H3 e3 => h2 H3 ((e.trans e2).trans e3) _ fun H4 e4 => ⟨a, xs, rfl, ex_t (((e.trans e2).trans e3).trans e4) hs, hn, fun p hp => q p _ (((e2.trans e3).trans e4).trans (Ex.new hp)) (st_of upd_same)⟩
theorem ep_cat {xs ys : List V} (ha : EvP K ta σ H xs) (hb : EvP K tb σ H ys) (hz : xs.length + ys.length ≤ 100000) : EvP K (tOp (rCatA K) ta tb) σ H (xs ++ ys) := fun H1 e Q q =>
  ha H1 e _ fun p H2 e2 hp => hb H2 (e.trans e2) _ fun r H3 e3 hr => ⟨p, r, xs, ys, rfl, rfl, ex_t e3 hp, hr, sz_of hz, fun h => q r H3 (e2.trans e3) (by rw [h]; exact hr), fun _ h => q p H3 (e2.trans e3) (by rw [h, List.append_nil]; exact ex_t e3 hp), fun _ _ l hl => q l _ ((e2.trans e3).trans (Ex.new hl)) (st_of upd_same)⟩
end
theorem sqT_veil {K : Kf} {b p : Addr} {H : Hp} {xs : List V} (hb : Box H b) (h : SqT K H p xs) : SqT K (veil (some b) H) p xs := by
  have ne : ∀ {o : HO}, H p = some o → (∀ ys, o ≠ .lst ys) → some b ≠ some p := fun {o} e n z => by
    obtain ⟨x, y, w, q⟩ := hb
    cases z
    rw [q] at e; cases e
    exact n _ rfl
  rcases h with (h | ⟨o, h⟩) | h
  · exact .inl (.inl (veil_of h (ne h fun ys z => by cases z) fun ps z => by cases z))
  · exact .inl (.inr ⟨o, veil_of h (ne h fun ys z => by cases z) fun ps z => by cases z⟩)
  · exact .inr h
theorem late_wrong {ls : Lat} {kk n : Nat} {bd : PyData} (ok : LatOk ls kk) (hn : n < kk) (hb : latBad bd = true) : latFault kk (.tuple (((ls.take n).map latP ++ [bd]) ++ (ls.drop (n + 1)).map latP)) = some (n : Int) := by
  have hl := ok.len
  have hlen : (((ls.take n).map latP ++ [bd]) ++ (ls.drop (n + 1)).map latP).length = kk := by simp; omega
  unfold latFault
  show (if (((ls.take n).map latP ++ [bd]) ++ (ls.drop (n + 1)).map latP).length ≠ kk then some (-1) else _) = _
  rw [hlen]
  simp only [ne_eq, not_true_eq_false, if_false]
  have ht : ((ls.take n).map latP).length = n := by simp; omega
  have hfirst : (((ls.take n).map latP ++ [bd]) ++ (ls.drop (n + 1)).map latP).findIdx? latBad = some n := by
    refine bad_first (d := bd) (fun j d hj hd => ?_) ?_ hb
    · rw [List.append_assoc, List.getElem?_append_left (by omega)] at hd
      rw [List.getElem?_map] at hd
      obtain ⟨t, ht', rfl⟩ := Option.map_eq_some_iff.mp hd
      have hm : t ∈ ls := List.mem_of_mem_take (List.mem_of_getElem? ht')
      cases t with
      | none => rfl
      | some t =>
        have := ok.rng t hm
        simp [latP, latBad, belowD, this.1, this.2]
    · rw [List.append_assoc, List.getElem?_append_right (by omega), ht]
      simp
  rw [hfirst]
  rfl
section
variable {P : Program} {w : World} {K : Kf} {mg : Str → Option Value} {base : Heap} {x : Ad} {fa c T : Addr} {A : Around} {s : Shared} {H0 : Hp} {a : Addr} {ns : List Int}
/-- with a place and what is none -/
def N10 (K : Kf) (T a : Addr) (ns : List Int) (σ : L2.St) (H : Hp) : Prop := ∃ (i : Int) (b : Addr) (m : V) (kk : Nat) (l : Addr) (ls : Lat) (n : Nat) (bad : V) (bd : PyData) (y3 y4 y5 y6 y7 y10 y12 y15 y16 : Option V), σ = St17 (some (.ref a)) (some (.int i)) (some (.int kk)) y3 y4 y5 y6 y7 (some (.int (n : Int))) (some bad) y10 (some (.ref b)) y12 (some (.ref l)) (some m) y15 y16 ∧ R4 K T a ns b m kk l ls H ∧
  n < kk ∧ Dp K (veil (some b) H) bad bd ∧ latBad bd = true
theorem ht_bad (Z : All P K mg x) (hr : Room 10 (A.deeper (envOfC "law" (defScope sLaw) s.heap.objs.size fa (.ref c)))) : HT (lawX P w K mg base fa c A s H0) (inFor 12) (N7 K T a ns) (N10 K T a ns) := by
  have B := Z.W.B
  refine ⟨_, ps_par (i := 8) (j := 9) rfl scLaw.nd rfl rfl (by decide) rfl rfl (pa_cons (pe_dfn (ok_take Z.R.take B) Z.R.take (hr.mono (by decide)) (by rfl) (pa_cons (pv 11) (pa_cons (pv 2) pa_nil))) (pa_cons (pe_dfn (ok_pick Z.R.pick Z.R.take B) Z.R.pick (hr.mono (by decide)) (by rfl) (pa_cons (pv 11) (pa_cons (pe_lst (pa_cons pe_bl (pa_cons (pe_un un_neg pe_int) (pa_cons pe_int (pa_cons pe_str (pa_cons (pe_tup pa_nil) (pa_cons pe_str pa_nil))))))) pa_nil))) pa_nil)) (by rfl), ?_⟩
  rintro D _ H ⟨i, b, m, kk, l, ls, v, nw, y3, y4, y6, y7, y8, y9, y10, y12, y15, y16, rfl, r, ht⟩ k
  have k4 := r.k14
  refine ⟨_, rfl, _, rfl, b, kk, rfl, r.box, by omega, by omega, fun at_ H1 a0 a1 bx1 => ?_⟩
  have v1 : Vs T b H H1 := .bx r.box bx1
  have r1 := r.step v1
  refine ⟨_, rfl, 1, rfl, sz_of (by show 0 ≤ 100000; decide), fun pe hpe => ⟨sz_of (by show 6 ≤ 100000; decide), fun pl hpl => ?_⟩⟩
  have e2 : Ex H1 (upd H1 pe (.tup [])) := Ex.new hpe
  have e3 : Ex (upd H1 pe (.tup [])) (upd (upd H1 pe (.tup [])) pl (.lst [.bl true, .int (-1), .int 13, .str "0", .ref pe, .str "1"])) := Ex.new hpl
  refine ⟨b, pl, _, rfl, r1.box.ex (e2.trans e3), ne_box (r1.box.ex e2) hpl, upd_same, by show 0 < 6; decide, by show 6 ≤ 1000; decide, fun bad H4 hbad bx4 => ⟨_, _, rfl, ?_⟩⟩
  have v4 : Vs T b H1 H4 := (Vs.of (e2.trans e3)).trans (.bx (r1.box.ex (e2.trans e3)) bx4)
  have r4 := r1.step v4
  obtain ⟨bd, hd, hb⟩ : ∃ bd, Dp K (veil (some b) H4) bad bd ∧ latBad bd = true := by
    simp at hbad
    rcases hbad with rfl | rfl | rfl | rfl | rfl | rfl
    · exact ⟨.bool true, .bl true, rfl⟩
    · exact ⟨.int (-1), .int _, rfl⟩
    · exact ⟨.int 13, .int _, rfl⟩
    · exact ⟨.str "0", .str _, rfl⟩
    · exact ⟨.tuple [], .tup (st_of (veil_fresh r1.box hpe (bx4.keep pe _ (ne_box r1.box hpe) (e3 _ _ upd_same)) fun ps z => by cases z)) .nil, rfl⟩
    · exact ⟨.str "1", .str _, rfl⟩
  have ea : at_ = ((at_.toNat : Nat) : Int) := by omega
  refine k _ _ ⟨i, b, m, kk, l, ls, at_.toNat, bad, bd, y3, y4, some v, y6, y7, y10, y12, y15, y16, ?_, r4, by omega, hd, hb⟩
  rw [← ea]
  rfl
/-- with wrong lateness -/
def N11 (K : Kf) (T a : Addr) (ns : List Int) (σ : L2.St) (H : Hp) : Prop := ∃ (i : Int) (b : Addr) (m : V) (kk : Nat) (l : Addr) (ls : Lat) (n : Nat) (wr : Addr) (wd : PyData) (y3 y4 y5 y6 y7 y9 y10 y12 y15 : Option V), σ = St17 (some (.ref a)) (some (.int i)) (some (.int kk)) y3 y4 y5 y6 y7 (some (.int (n : Int))) y9 y10 (some (.ref b)) y12 (some (.ref l)) (some m) y15 (some (.ref wr)) ∧ R4 K T a ns b m kk l ls H ∧
  Dp K (veil (some b) H) (.ref wr) wd ∧ latFault kk wd = some (n : Int)
theorem ht_wrong (Z : All P K mg x) : HT (lawX P w K mg base fa c A s H0) (inFor 13) (N10 K T a ns) (N11 K T a ns) := by
  refine ⟨_, ps_set (i := 16) scLaw.nd rfl (.inr rfl) (pe_op op_catA (pe_op op_catA (pe_slice sl_tup (pv 13) po_none (po_some (pv 8))) (pe_tup (pa_cons (pv 9) pa_nil))) (pe_slice sl_tup (pv 13) (po_some (pe_op op_add (pv 8) pe_int)) po_none)), ?_⟩
  rintro D _ H ⟨i, b, m, kk, l, ls, n, bad, bd, y3, y4, y5, y6, y7, y10, y12, y15, y16, rfl, r, hn, hd, hb⟩ k
  have hl : (ls.map latV).length = kk := by rw [List.length_map, r.ok.len]
  have hll := r.ok.len
  have c1 : cutV (ls.map latV) none (some (n : Int)) = (ls.take n).map latV := by
    unfold cutV
    rw [HT.sIx_none, HT.sIx_nat, hl, Nat.min_eq_left (by omega)]
    simp
  have c2 : cutV (ls.map latV) (some ((n : Int) + 1)) none = (ls.drop (n + 1)).map latV := by
    have e : ((n : Int) + 1) = ((n + 1 : Nat) : Int) := by omega
    unfold cutV
    rw [HT.sIx_none, e, HT.sIx_nat, hl, Nat.min_eq_left (by omega), ← List.map_drop]
    exact List.take_of_length_le (by simp; omega)
  have k4 := r.k14
  have q := ep_cat (K := K) (H := H) (ep_cat (ep_sl (tl := tNoPart) (lo := none) (hi := some (n : Int)) (ev_var (i := 13) rfl) eo_none (eo_some (ev_var (i := 8) rfl)) (st_of r.latH) (by rw [HT.sIx_nat, hl, Nat.min_eq_left (by omega)]; omega))
    (ep_U (eu_tup (ea_cons (ev_var (σ := St17 (some (.ref a)) (some (.int i)) (some (.int kk)) y3 y4 y5 y6 y7 (some (.int (n : Int))) (some bad) y10 (some (.ref b)) y12 (some (.ref l)) (some m) y15 y16) (i := 9) (v := bad) rfl) ea_nil) (by show 1 ≤ 100000; decide))) (by rw [c1]; simp; omega))
    (ep_sl (th := tNoPart) (lo := some ((n : Int) + 1)) (hi := none) (ev_var (i := 13) rfl) (eo_some (ev_addI (ev_var (i := 8) (v := .int (n : Int)) rfl) (ev_c (v := .int 1)))) eo_none (st_of r.latH) (by
      have e : ((n : Int) + 1) = ((n + 1 : Nat) : Int) := by omega
      rw [e, HT.sIx_nat, hl, Nat.min_eq_left (by omega)]; omega)) (by rw [c1, c2]; simp; omega)
  rw [c1, c2] at q
  refine q H (Ex.refl _) _ fun p H1 e1 hp => k _ _ ⟨i, b, m, kk, l, ls, n, p, _, _, _, _, _, _, _, _, _, _, rfl, r.step (.of e1), .tup (sqT_veil (r.box.ex e1) hp) (da_append (da_append (da_of dp_lat _) (.cons (hd.ex (veil_ex e1)) .nil)) (da_of dp_lat _)), late_wrong r.ok hn hb⟩
/-! ### the list of works -/
/-- what stands in the list: a lambda of the text and what it is to say -/
abbrev Wk := Expr × Str × (Int → Int)
def Ent (G : Hp) (cells : List (Str × Addr)) (n : Int) (t : V) (e : Wk) : Prop := ∃ (t' f u c' : Addr), t = .ref t' ∧ G t' = some (.tup [.ref f, .ref u]) ∧ G f = some (LamO f (theLam cells e.1 c')) ∧ G c' = some (CodeO c' qLam) ∧ G u = some (.tup [.str e.2.1, .int (e.2.2 n)])
theorem Ent.ex {G G' : Hp} {cells : List (Str × Addr)} {n : Int} {t : V} {e : Wk} (h : Ent G cells n t e) (x : Ex G G') : Ent G' cells n t e := by
  obtain ⟨t', f, u, c', h1, h2, h3, h4, h5⟩ := h
  exact ⟨t', f, u, c', h1, x _ _ h2, x _ _ h3, x _ _ h4, x _ _ h5⟩
/-- all but the box, the tables and the list of works -/
noncomputable def cov (b wk : Addr) (H : Hp) : Hp := hide wk (veil (some b) H)
theorem cov_le {b wk : Addr} {H : Hp} : Ex (cov b wk H) H := hide_le.trans veil_le
theorem cov_ex {b wk : Addr} {H H' : Hp} (e : Ex (veil (some b) H) (veil (some b) H')) : Ex (cov b wk H) (cov b wk H') := fun a o h => by
  unfold cov at h ⊢
  by_cases z : a = wk
  · unfold hide at h; rw [if_pos z] at h; cases h
  · rw [hide_ne z] at h ⊢; exact e a o h
theorem cov_upd {b wk : Addr} {H : Hp} {o : HO} : Ex (cov b wk H) (cov b wk (upd H wk o)) := fun a u h => by
  unfold cov at h ⊢
  by_cases z : a = wk
  · unfold hide at h; rw [if_pos z] at h; cases h
  · rw [hide_ne z] at h ⊢
    obtain ⟨h1, h2, h3⟩ := of_veil h
    exact veil_of (by rw [upd_ne z]; exact h1) h2 h3
theorem cov_new {b wk : Addr} {H H' : Hp} (e : Ex (veil (some b) H) (veil (some b) H')) (h : H wk = none) : Ex (veil (some b) H) (cov b wk H') := fun a o q => by
  have ne : a ≠ wk := fun z => by
    have := (of_veil q).1
    rw [z, h] at this; cases this
  exact (hide_ne ne).trans (e a o q)
theorem cov_at {b wk p : Addr} {H : Hp} {o : HO} (h : H p = some o) (h1 : p ≠ wk) (h2 : p ≠ b) (ht : ∀ ps, o ≠ .tbl ps) : cov b wk H p = some o := (hide_ne h1).trans (veil_of h (fun z => h2 (Option.some.inj z).symm) ht)
/-- with the list of works -/
structure R5 (K : Kf) (T a : Addr) (ns : List Int) (b : Addr) (m : V) (kk : Nat) (l : Addr) (ls : Lat) (n : Nat) (wr : Addr) (wd : PyData) (wk : Addr) (ts : List V) (cells : List (Str × Addr)) (es : List Wk) (H : Hp) : Prop where
  scr : SqL K (cov b wk H) a (ns.map V.int)
  tab : TabS H T qLam
  box : Box H b
  mac : MacV K (cov b wk H) m kk
  lat : cov b wk H l = some (.tup (ls.map latV))
  ok : LatOk ls kk
  wr : Dp K (cov b wk H) (.ref wr) wd
  wf : latFault kk wd = some (n : Int)
  lst : H wk = some (.lst ts)
  len : ts.length = es.length
  ent : ∀ (j : Nat) t e, ts[j]? = some t → es[j]? = some e → Ent (cov b wk H) cells (n : Int) t e
  few : es.length ≤ 10
  wkb : wk ≠ b
/-- a step that leaves the list of works as it is -/
theorem R5.step {K : Kf} {T a : Addr} {ns : List Int} {b : Addr} {m : V} {kk : Nat} {l : Addr} {ls : Lat} {n : Nat} {wr : Addr} {wd : PyData} {wk : Addr} {ts : List V} {cells : List (Str × Addr)} {es : List Wk} {H H' : Hp} (h : R5 K T a ns b m kk l ls n wr wd wk ts cells es H) (v : Vs T b H H') : R5 K T a ns b m kk l ls n wr wd wk ts cells es H' := by
  have e := cov_ex (wk := wk) v.ex
  have hl : veil (some b) H wk = some (.lst ts) := veil_of h.lst (fun z => h.wkb (Option.some.inj z).symm) fun ps z => by cases z
  exact ⟨ex_l e h.scr, v.tab h.tab, v.box h.box, h.mac.ex e, e _ _ h.lat, h.ok, h.wr.ex e, h.wf, veil_le _ _ (v.ex _ _ hl), h.len, fun j t x h1 h2 => (h.ent j t x h1 h2).ex e, h.few, h.wkb⟩
def NW (K : Kf) (T a : Addr) (ns : List Int) (cells : List (Str × Addr)) (es : List Wk) (σ : L2.St) (H : Hp) : Prop := ∃ (i : Int) (b : Addr) (m : V) (kk : Nat) (l : Addr) (ls : Lat) (n : Nat) (wr : Addr) (wd : PyData) (wk : Addr) (ts : List V) (y3 y4 y5 y6 y7 y9 y12 y15 : Option V),
  σ = St17 (some (.ref a)) (some (.int i)) (some (.int kk)) y3 y4 y5 y6 y7 (some (.int (n : Int))) y9 (some (.ref wk)) (some (.ref b)) y12 (some (.ref l)) (some m) y15 (some (.ref wr)) ∧ R5 K T a ns b m kk l ls n wr wd wk ts cells es H
/-- the lambda in the first work, in a work appended -/
def lamIn (st : Stmt) : Expr := match st with
  | .Assign _ (.List [.Tuple [e, _] _ _] _) _ => e
  | .Expr (.Call _ [.Tuple [e, _] _ _] _ _) _ => e
  | _ => .Constant .none 0 ⟨0, 0, 0, 0⟩
abbrev w1 : Wk := (lamIn (inFor 14), "lateness", fun n => n)
abbrev w2 : Wk := (lamIn (inFor 15), "lateness", fun _ => -1)
abbrev w3 : Wk := (lamIn (inFor 16), "lateness", fun n => n)
abbrev w4 : Wk := (lamIn (inFor 17), "machine", fun _ => -1)
theorem ht_w1 (Z : All P K mg x) (TB : TabB base mg c T) : HT (lawX P w K mg base fa c A s H0) (inFor 14) (N11 K T a ns) (NW K T a ns (lawX P w K mg base fa c A s H0).env.cells [w1]) := by
  refine ⟨_, ps_set (i := 10) scLaw.nd rfl (.inl rfl) (pe_lst (pa_cons (pe_tup (pa_cons (pe_lamb (q := qLam) TB rfl (by rfl) (lamS_by (by rfl))) (pa_cons (pe_tup (pa_cons pe_str (pa_cons (pv 8) pa_nil))) pa_nil))) pa_nil)), ?_⟩
  rintro D _ H ⟨i, b, m, kk, l, ls, n, wr, wd, y3, y4, y5, y6, y7, y9, y10, y12, y15, rfl, r, hw, hf⟩ k
  refine ⟨r.tab, fun f c' H1 eN T1 hf0 hfo hco => ⟨_, rfl, sz_of (by show 2 ≤ 100000; decide), fun u hu => ⟨sz_of (by show 2 ≤ 100000; decide), fun t ht => ⟨sz_of (by show 1 ≤ 100000; decide), fun wk hwk => ?_⟩⟩⟩⟩
  have v1 : Vs T b H H1 := .lam eN T1
  have e2 : Ex H1 (upd H1 u (.tup [.str "lateness", .int (n : Int)])) := Ex.new hu
  have f2 : (upd H1 u (.tup [.str "lateness", .int (n : Int)])) u = some (.tup [.str "lateness", .int (n : Int)]) := upd_same
  generalize (upd H1 u (.tup [.str "lateness", .int (n : Int)])) = H2 at e2 f2 ht hwk ⊢
  have e3 : Ex H2 (upd H2 t (.tup [.ref f, .ref u])) := Ex.new ht
  have f3 : (upd H2 t (.tup [.ref f, .ref u])) t = some (.tup [.ref f, .ref u]) := upd_same
  generalize (upd H2 t (.tup [.ref f, .ref u])) = H3 at e3 f3 hwk ⊢
  have e4 : Ex H3 (upd H3 wk (.lst [.ref t])) := Ex.new hwk
  have f4 : (upd H3 wk (.lst [.ref t])) wk = some (.lst [.ref t]) := upd_same
  generalize (upd H3 wk (.lst [.ref t])) = H4 at e4 f4 ⊢
  have v3 : Vs T b H H3 := v1.trans (.of (e2.trans e3))
  have v4 : Vs T b H H4 := v3.trans (.of e4)
  have r3 := r.step v3
  have ec : Ex (veil (some b) H3) (cov b wk H4) := cov_new (veil_ex e4) hwk
  have nb : ∀ {p : Addr} {o : HO}, H3 p = some o → (∀ ys, o ≠ .lst ys) → p ≠ b := fun {p o} e n z => by
    obtain ⟨x, y, w, q⟩ := r3.box
    rw [z, q] at e; cases e; exact n _ rfl
  have tv : ∀ {p : Addr} {o : HO}, H3 p = some o → (∀ ys, o ≠ .lst ys) → (∀ ps, o ≠ .tbl ps) → cov b wk H4 p = some o := fun {p o} e n1 n2 => ec _ _ (veil_of e (fun z => nb e n1 (Option.some.inj z).symm) n2)
  refine k _ _ ⟨i, b, m, kk, l, ls, n, wr, wd, wk, [.ref t], _, _, _, _, _, _, _, _, rfl, ⟨ex_l ec r3.scr, v4.tab r.tab, v4.box r.box, r3.mac.ex ec, ec _ _ r3.lat, r.ok, (hw.ex v3.ex).ex ec, hf, f4, rfl, fun j t' e h1 h2 => ?_, by decide, ne_box r3.box hwk⟩⟩
  match j, h1, h2 with
  | 0, h1, h2 =>
    cases h1
    cases h2
    exact ⟨t, f, u, c', rfl, tv f3 (fun ys z => by cases z) (fun ys z => by cases z), tv (e3 _ _ (e2 _ _ hfo)) (fun ys z => by cases z) (fun ys z => by cases z), tv (e3 _ _ (e2 _ _ hco)) (fun ys z => by cases z) (fun ys z => by cases z), tv (e3 _ _ f2) (fun ys z => by cases z) (fun ys z => by cases z)⟩
  | j + 1, h1, h2 => simp at h1
/-- works.append((lambda: .., (nm, te))) -/
theorem app_read {cells : List (Str × Addr)} {es : List Wk} {e : Expr} {nm : Str} {g : Int → Int} {te : TE} {mk : Addr → Lm} {D : Ends} {σ : L2.St} {H : Hp} (hmk : mk = fun c' => theLam cells e c') (hte : ∀ (n : Nat) σ H, σ[8]? = some (some (.int (n : Int))) → Ev te σ H (.int (g n))) (hes : es.length ≤ 9)
    (h : NW K T a ns cells es σ H) (k : ∀ σ' H', NW K T a ns cells (es ++ [(e, nm, g)]) σ' H' → D.nx σ' H') :
    tDrop (tBM K "list" rAppend (tVar 10) (tCons (tTup (tCons (tLamb T qLam mk) (tCons (tTup (tCons (tC (.str nm)) (tCons te tNil))) tNil))) tNil)) D σ H := by
  obtain ⟨i, b, m, kk, l, ls, n, wr, wd, wk, ts, y3, y4, y5, y6, y7, y9, y12, y15, rfl, r⟩ := h
  refine ⟨_, rfl, .inl ⟨rfl, _, sq_of r.lst⟩, r.tab, fun f c' H1 eN T1 hf0 hfo hco => ?_⟩
  rw [hmk] at hfo
  have v1 : Vs T b H H1 := .lam eN T1
  refine hte n _ H1 rfl H1 (Ex.refl _) _ fun H2 e2 => ⟨sz_of (by show 2 ≤ 100000; decide), fun u hu => ⟨sz_of (by show 2 ≤ 100000; decide), fun t ht => ?_⟩⟩
  have e3 : Ex H2 (upd H2 u (.tup [.str nm, .int (g n)])) := Ex.new hu
  have f3 : (upd H2 u (.tup [.str nm, .int (g n)])) u = some (.tup [.str nm, .int (g n)]) := upd_same
  generalize (upd H2 u (.tup [.str nm, .int (g n)])) = H3 at e3 f3 ht ⊢
  have e4 : Ex H3 (upd H3 t (.tup [.ref f, .ref u])) := Ex.new ht
  have f4 : (upd H3 t (.tup [.ref f, .ref u])) t = some (.tup [.ref f, .ref u]) := upd_same
  generalize (upd H3 t (.tup [.ref f, .ref u])) = H4 at e4 f4 ⊢
  have v4 : Vs T b H H4 := v1.trans (.of ((e2.trans e3).trans e4))
  have r4 := r.step v4
  have nb : ∀ {p : Addr} {o : HO}, H4 p = some o → (∀ ys, o ≠ .lst ys) → p ≠ b := fun {p o} q n z => by
    obtain ⟨x, y, w, q'⟩ := r4.box
    rw [z, q'] at q; cases q; exact n _ rfl
  have nw : ∀ {p : Addr} {o : HO}, H4 p = some o → (∀ ys, o ≠ .lst ys) → p ≠ wk := fun {p o} q n z => by
    have := r4.lst
    rw [z, this] at q; cases q; exact n _ rfl
  have tv : ∀ {p : Addr} {o : HO}, H4 p = some o → (∀ ys, o ≠ .lst ys) → (∀ ps, o ≠ .tbl ps) → cov b wk (upd H4 wk (.lst (ts ++ [.ref t]))) p = some o := fun {p o} q n1 n2 => cov_upd _ _ (cov_at q (nw q n1) (nb q n1) n2)
  have ec : Ex (cov b wk H4) (cov b wk (upd H4 wk (.lst (ts ++ [.ref t])))) := cov_upd
  refine ⟨wk, ts, .ref t, rfl, rfl, r4.lst, sz_lt (by rw [r.len]; omega), k _ _ ⟨i, b, m, kk, l, ls, n, wr, wd, wk, ts ++ [.ref t], _, _, _, _, _, _, _, _, rfl, ⟨ex_l ec r4.scr, ?_, ?_, r4.mac.ex ec, ec _ _ r4.lat, r.ok, r4.wr.ex ec, r.wf, upd_same, by simp [r.len], fun j t' e' h1 h2 => ?_, by simp; omega, r.wkb⟩⟩⟩
  · obtain ⟨ps, h1, h2, h3⟩ := r4.tab
    have nT : T ≠ wk := fun z => by have := r4.lst; rw [← z, h1] at this; cases this
    refine ⟨ps, by rw [upd_ne nT]; exact h1, h2, fun pos cv h => ?_⟩
    obtain ⟨c2, h4, h5⟩ := h3 pos cv h
    have nc : c2 ≠ wk := fun z => by have := r4.lst; rw [← z, h5] at this; cases this
    exact ⟨c2, h4, by rw [upd_ne nc]; exact h5⟩
  · obtain ⟨x, y, w, q⟩ := r4.box
    exact ⟨x, y, w, by rw [upd_ne r.wkb.symm]; exact q⟩
  · rcases Nat.lt_or_ge j ts.length with hj | hj
    · rw [List.getElem?_append_left hj] at h1
      rw [List.getElem?_append_left (by rw [← r.len]; exact hj)] at h2
      exact (r4.ent j t' e' h1 h2).ex ec
    · rw [List.getElem?_append_right hj] at h1
      rw [List.getElem?_append_right (by rw [← r.len]; exact hj), ← r.len] at h2
      match hq : j - ts.length, h1, h2 with
      | 0, h1, h2 =>
        cases h1
        cases h2
        exact ⟨t, f, u, c', rfl, tv f4 (fun ys z => by cases z) (fun ys z => by cases z), tv ((e2.trans (e3.trans e4)) _ _ hfo) (fun ys z => by cases z) (fun ys z => by cases z), tv ((e2.trans (e3.trans e4)) _ _ hco) (fun ys z => by cases z) (fun ys z => by cases z), tv (e4 _ _ f3) (fun ys z => by cases z) (fun ys z => by cases z)⟩
      | q + 1, h1, h2 => simp at h1
theorem ht_w2 (Z : All P K mg x) (TB : TabB base mg c T) : HT (lawX P w K mg base fa c A s H0) (inFor 15) (NW K T a ns (lawX P w K mg base fa c A s H0).env.cells [w1]) (NW K T a ns (lawX P w K mg base fa c A s H0).env.cells [w1, w2]) :=
  ⟨_, ps_expr (pe_bm PySem.F.plainAttrs_list PySem.F.slot_list_append PySem.F.type_list_append mt_append (pv 10) (pa_cons (pe_tup (pa_cons (pe_lamb (q := qLam) TB rfl (by rfl) (lamS_by (by rfl))) (pa_cons (pe_tup (pa_cons pe_str (pa_cons (pe_un un_neg pe_int) pa_nil))) pa_nil))) pa_nil)),
    fun D σ H h k => app_read (g := fun _ => -1) rfl (fun n σ H _ => ev_neg) (by decide) h k⟩
theorem ht_w3 (Z : All P K mg x) (TB : TabB base mg c T) : HT (lawX P w K mg base fa c A s H0) (inFor 16) (NW K T a ns (lawX P w K mg base fa c A s H0).env.cells [w1, w2]) (NW K T a ns (lawX P w K mg base fa c A s H0).env.cells [w1, w2, w3]) :=
  ⟨_, ps_expr (pe_bm PySem.F.plainAttrs_list PySem.F.slot_list_append PySem.F.type_list_append mt_append (pv 10) (pa_cons (pe_tup (pa_cons (pe_lamb (q := qLam) TB rfl (by rfl) (lamS_by (by rfl))) (pa_cons (pe_tup (pa_cons pe_str (pa_cons (pv 8) pa_nil))) pa_nil))) pa_nil)),
    fun D σ H h k => app_read (g := fun n => n) rfl (fun n σ H h8 => ev_var h8) (by decide) h k⟩
theorem ht_w4 (Z : All P K mg x) (TB : TabB base mg c T) : HT (lawX P w K mg base fa c A s H0) (inFor 17) (NW K T a ns (lawX P w K mg base fa c A s H0).env.cells [w1, w2, w3]) (NW K T a ns (lawX P w K mg base fa c A s H0).env.cells [w1, w2, w3, w4]) :=
  ⟨_, ps_expr (pe_bm PySem.F.plainAttrs_list PySem.F.slot_list_append PySem.F.type_list_append mt_append (pv 10) (pa_cons (pe_tup (pa_cons (pe_lamb (q := qLam) TB rfl (by rfl) (lamS_by (by rfl))) (pa_cons (pe_tup (pa_cons pe_str (pa_cons (pe_un un_neg pe_int) pa_nil))) pa_nil))) pa_nil)),
    fun D σ H h k => app_read (g := fun _ => -1) rfl (fun n σ H _ => ev_neg) (by decide) h k⟩
end
end Fw
/-! law: each work says its error -/
namespace Fw
open PySem PySem.Spec PyProof.Rows L2 Evl LamX
section
variable {P : Program} {w : World} {K : Kf} {mg : Str → Option Value} {base : Heap} {x : Ad} {fa c T : Addr} {A : Around} {s : Shared} {H0 : Hp} {a : Addr} {ns : List Int}
variable {i : Int} {b : Addr} {m : V} {kk : Nat} {l : Addr} {ls : Lat} {n : Nat} {wr : Addr} {wd : PyData} {wk : Addr} {ts : List V} {y3 y4 y5 y6 y7 y9 y12 y15 : Option V} {cells : List (Str × Addr)} {es : List Wk} {H : Hp} {B : Heap} {f c' : Addr}
abbrev sW (a : Addr) (i : Int) (kk : Nat) (n : Nat) (wk b l : Addr) (m : V) (wr : Addr) (y3 y4 y5 y6 y7 y9 y12 y15 : Option V) : L2.St := St17 (some (.ref a)) (some (.int i)) (some (.int kk)) y3 y4 y5 y6 y7 (some (.int (n : Int))) y9 (some (.ref wk)) (some (.ref b)) y12 (some (.ref l)) (some m) y15 (some (.ref wr))
theorem err_of {C : Addr} {v : Int} {b : Addr} {H : Hp} {Ew : XK} (h2 : ∀ C' i', (some (C, v) : Option (Addr × Int)) = some (C', i') → ∀ d H', Bx (oneB b) H H' → H' d = some (.xd [("at", .int i')]) → Ew (.ref C') (some d) H') : ErrAt C v H Ew := fun d H' e hd => h2 C v rfl d H' (.of e) hd
theorem ends_w1 (Z : All P K mg x) (r : R5 K T a ns b m kk l ls n wr wd wk ts cells es H) (C : CellsOk (lawX P w K mg base fa c A s H0) (sW a i kk n wk b l m wr y3 y4 y5 y6 y7 y9 y12 y15) B)
    (hf : H f = some (LamO f (theLam (lawX P w K mg base fa c A s H0).env.cells w1.1 c'))) (hc : H c' = some (CodeO c' qLam)) : Ends1 P w K mg B 8 f H (oneB b) (some (x.CL, (n : Int))) := by
  refine ends_lam (k := 7) (N := nLaw) (σ := sW a i kk n wk b l m wr y3 y4 y5 y6 y7 y9 y12 y15) (lamP_by (by rfl)) (law_cells [("_law_machine_here", 14), ("_law_wrong", 16)] C rfl (by decide +kernel) (fun q hq => ?_)) hf hc lam_binds
    (fun A2 outer s2 E hr2 => pe_dfx (W := fun cls d _ H => E cls d H) (ok_late Z.D Z.W Z.T) Z.D.late (hr2.mono (by decide)) (by rfl) (takes_of rfl rfl rfl rfl) (pa_cons (pv 14) (pa_cons (pv 16) pa_nil))) (fun Qw Ew h1 h2 => ?_)
  · simp at hq
    rcases hq with rfl | rfl
    · exact ⟨_, rfl⟩
    · exact ⟨_, rfl⟩
  · refine ⟨_, rfl, _, rfl, m, .ref wr, rfl, .inl ⟨kk, wd, r.mac.ex cov_le, r.wr.ex cov_le, fun j hj => ?_, fun hn => ?_⟩⟩
    · rw [r.wf] at hj; cases hj; exact err_of h2
    · rw [r.wf] at hn; cases hn
theorem ends_w3 (Z : All P K mg x) (r : R5 K T a ns b m kk l ls n wr wd wk ts cells es H) (C : CellsOk (lawX P w K mg base fa c A s H0) (sW a i kk n wk b l m wr y3 y4 y5 y6 y7 y9 y12 y15) B)
    (hf : H f = some (LamO f (theLam (lawX P w K mg base fa c A s H0).env.cells w3.1 c'))) (hc : H c' = some (CodeO c' qLam)) : Ends1 P w K mg B 8 f H (oneB b) (some (x.CL, (n : Int))) := by
  refine ends_lam (k := 7) (N := nLaw) (σ := sW a i kk n wk b l m wr y3 y4 y5 y6 y7 y9 y12 y15) (lamP_by (by rfl)) (law_cells [("_law_machine_here", 14), ("_law_wrong", 16)] C rfl (by decide +kernel) (fun q hq => ?_)) hf hc lam_binds
    (fun A2 outer s2 E hr2 => pe_dfx (W := fun cls d _ H => E cls d H) (ok_told Z.told Z.D Z.W Z.T) Z.told (hr2.mono (by decide)) (by rfl) (takes_of rfl rfl rfl rfl) (pa_cons (pv 14) (pa_cons (pv 16) (pa_cons pe_non pa_nil)))) (fun Qw Ew h1 h2 => ?_)
  · simp at hq
    rcases hq with rfl | rfl
    · exact ⟨_, rfl⟩
    · exact ⟨_, rfl⟩
  · refine ⟨_, rfl, _, rfl, m, .ref wr, .non, kk, wd, .none, rfl, r.mac.ex cov_le, r.wr.ex cov_le, .non, fun j hj => ?_, fun hn => ?_⟩
    · rw [r.wf] at hj; cases hj; exact err_of h2
    · rw [r.wf] at hn; cases hn
theorem ends_w4 (Z : All P K mg x) (C : CellsOk (lawX P w K mg base fa c A s H0) (sW a i kk n wk b l m wr y3 y4 y5 y6 y7 y9 y12 y15) B)
    (hf : H f = some (LamO f (theLam (lawX P w K mg base fa c A s H0).env.cells w4.1 c'))) (hc : H c' = some (CodeO c' qLam)) : Ends1 P w K mg B 8 f H (oneB b) (some (x.CM, (-1 : Int))) := by
  refine ends_lam (k := 7) (N := nLaw) (σ := sW a i kk n wk b l m wr y3 y4 y5 y6 y7 y9 y12 y15) (lamP_by (by rfl)) (law_cells [] C rfl (by decide +kernel) (fun q hq => by simp at hq)) hf hc lam_binds
    (fun A2 outer s2 E hr2 => pe_dfx (W := fun cls d _ H => E cls d H) (ok_gap Z.D Z.W Z.T) Z.D.gap (hr2.mono (by decide)) (by rfl) (takes_of rfl rfl rfl rfl) (pa_cons pe_non (pa_cons pe_non (pa_cons pe_int pa_nil)))) (fun Qw Ew h1 h2 => ?_)
  exact ⟨.non, .non, 0, rfl, .inr ⟨rfl, err_of h2⟩⟩
theorem pe_slTB (K : Kf) {X : Cx} {e : Expr} {lo hi : Option Expr} {te : TE} {tl th : TO} {pos p2 : Pos} (hK : X.K = K) (he : PE X e te) (hl : PO X lo tl) (hu : PO X hi th) : PE X (.Subscript e (.Slice lo hi none p2) pos) (tSl (rSlT K) te tl th) := by
  rw [← hK]
  exact pe_slice sl_tup he hl hu
theorem pe_catB (K : Kf) {X : Cx} {e f : Expr} {ta tb : TE} {pos : Pos} (hK : X.K = K) (ha : PE X e ta) (hb : PE X f tb) : PE X (.BinOp e .Add f pos) (tOp (rCatA K) ta tb) := by
  rw [← hK]
  exact pe_op op_catA ha hb
theorem latFault_short {kk : Nat} {d : PyData} (h : ∀ ds, seqD d = some ds → ds.length ≠ kk) : latFault kk d = some (-1) := by
  unfold latFault
  cases e : seqD d with
  | none => rfl
  | some ds =>
    show (if ds.length ≠ kk then some (-1) else _) = _
    rw [if_pos (h ds e)]
theorem ends_w2 (Z : All P K mg x) (r : R5 K T a ns b m kk l ls n wr wd wk ts cells es H) (C : CellsOk (lawX P w K mg base fa c A s H0) (sW a i kk n wk b l m wr y3 y4 y5 y6 y7 y9 y12 y15) B)
    (hf : H f = some (LamO f (theLam (lawX P w K mg base fa c A s H0).env.cells w2.1 c'))) (hc : H c' = some (CodeO c' qLam)) : Ends1 P w K mg B 8 f H (oneB b) (some (x.CL, (-1 : Int))) := by
  refine ends_lam (k := 7) (N := nLaw) (σ := sW a i kk n wk b l m wr y3 y4 y5 y6 y7 y9 y12 y15) (lamP_by (by rfl)) (law_cells [("_law_box_here", 11), ("_law_lateness_here", 13), ("_law_machine_here", 14)] C rfl (by decide +kernel) (fun q hq => ?_)) hf hc lam_binds
    (fun A2 outer s2 E hr2 => pe_dfx (W := fun cls d _ H => E cls d H) (ok_win Z.D Z.W Z.T) Z.D.win (hr2.mono (by decide)) (by rfl) (takes_of rfl rfl rfl rfl) (pa_cons (pv 14) (pa_cons (pe_dfn (ok_pick Z.R.pick Z.R.take Z.W.B) Z.R.pick (hr2.mono (by decide)) (by rfl) (pa_cons (pv 11) (pa_cons
      (pe_lst (pa_cons pe_non (pa_cons (pe_catB K rfl (pv 13) (pe_tup (pa_cons pe_int pa_nil))) (pa_cons (pe_slTB K rfl (pv 13) (po_some pe_int) po_none) (pa_cons pe_int (pa_cons pe_str pa_nil)))))) pa_nil))) pa_nil))) (fun Qw Ew h1 h2 => ?_)
  · simp at hq
    rcases hq with rfl | rfl | rfl
    · exact ⟨_, rfl⟩
    · exact ⟨_, rfl⟩
    · exact ⟨_, rfl⟩
  · have hl : H l = some (.tup (ls.map latV)) := cov_le _ _ r.lat
    have hll : (ls.map latV).length = kk := by rw [List.length_map, r.ok.len]
    have k4 := r.mac.k4
    have c2 : cutV (ls.map latV) (some (1 : Int)) none = (ls.drop 1).map latV := by
      have e : (1 : Int) = ((1 : Nat) : Int) := rfl
      unfold cutV
      rw [HT.sIx_none, e, HT.sIx_nat, hll, Nat.min_eq_left (by omega), ← List.map_drop]
      have := r.ok.len
      exact List.take_of_length_le (by simp; omega)
    have q1 := ep_cat (K := K) (H := H) (ta := tVar 13) (tb := tTup (tCons (tC (.int 0)) tNil)) (σ := sW a i kk n wk b l m wr y3 y4 y5 y6 y7 y9 y12 y15) (xs := ls.map latV) (ys := [V.int 0]) (fun H1 e Q q => ⟨_, rfl, q l H1 (Ex.refl _) (st_of (e _ _ hl))⟩) (ep_U (eu_tup (ea_cons ev_c ea_nil) (by show 1 ≤ 100000; decide))) (by rw [hll]; show kk + 1 ≤ _; omega)
    refine ⟨_, rfl, _, rfl, q1 H (Ex.refl _) _ fun p1 H1 e1 hp1 => ?_⟩
    have q2 := ep_sl (K := K) (H := H1) (te := tVar 13) (tl := tPart (tC (.int 1))) (th := tNoPart) (σ := sW a i kk n wk b l m wr y3 y4 y5 y6 y7 y9 y12 y15) (a := l) (xs := ls.map latV) (lo := some (1 : Int)) (hi := none) (ev_var rfl) (eo_some ev_c) eo_none (st_of (e1 _ _ hl)) (by
      have e : (1 : Int) = ((1 : Nat) : Int) := rfl
      rw [e, HT.sIx_nat, hll, Nat.min_eq_left (by omega)]; omega)
    rw [c2] at q2
    refine q2 H1 (Ex.refl _) _ fun p2 H2 e2 hp2 => ⟨sz_of (by show 5 ≤ 100000; decide), fun pl hpl => ?_⟩
    have e3 : Ex H2 (upd H2 pl (.lst [.non, .ref p1, .ref p2, .int 3, .str "a"])) := Ex.new hpl
    have hb2 : Box H2 b := r.box.ex (e1.trans e2)
    refine ⟨b, pl, _, rfl, hb2.ex e3, ne_box hb2 hpl, upd_same, by show 0 < 5; decide, by show 5 ≤ 1000; decide, fun xv H3 hx bx3 => ?_⟩
    have v3 : Vs T b H H3 := (Vs.of ((e1.trans e2).trans e3)).trans (.bx (hb2.ex e3) bx3)
    have bxH : Bx (oneB b) H H3 := (Bx.of ((e1.trans e2).trans e3)).trans bx3
    have r3 := r.step v3
    have at3 : ∀ {p xs}, SqT K H2 p xs → SqT K H3 p xs := fun {p xs} h => ex_t (((veil_ex e3).trans (veil_bx bx3)).trans veil_le) (sqT_veil hb2 h)
    obtain ⟨d, hd, hfd⟩ : ∃ d, Dp K H3 xv d ∧ latFault kk d = some (-1) := by
      simp at hx
      rcases hx with rfl | rfl | rfl | rfl | rfl
      · exact ⟨.none, .non, rfl⟩
      · exact ⟨_, .tup (at3 (ex_t e2 hp1)) (da_append (da_of dp_lat ls) (da_ints [0])), latFault_short fun ds e => by
          cases e
          simp [r.ok.len]⟩
      · exact ⟨_, .tup (at3 hp2) (da_of dp_lat (ls.drop 1)), latFault_short fun ds e => by
          cases e
          have := r.ok.len
          simp; omega⟩
      · exact ⟨.int 3, .int 3, rfl⟩
      · exact ⟨.str "a", .str _, rfl⟩
    refine ⟨m, xv, kk, d, rfl, r3.mac.ex cov_le, hd, fun j hj => ?_, fun hn => ?_⟩
    · rw [hfd] at hj; cases hj
      exact fun d' H' e hd' => h2 _ _ rfl d' H' (bx_ex bxH e) hd'
    · rw [hfd] at hn; cases hn
end
end Fw
/-! law: its last look, its turns, the whole -/
namespace Fw
open PySem PySem.Spec PyProof.Rows L2 Evl LamX
section
variable {P : Program} {w : World} {K : Kf} {mg : Str → Option Value} {base : Heap} {x : Ad} {fa c T : Addr} {A : Around} {s : Shared} {H0 : Hp} {a : Addr} {ns : List Int}
/-- at the end of a turn: only what the next one needs -/
def N0e (K : Kf) (T a : Addr) (ns : List Int) (σ : L2.St) (H : Hp) : Prop := ∃ (y1 y2 y3 y4 y5 y6 y7 y8 y9 y10 y11 y12 y13 y14 y15 y16 : Option V), σ = St17 (some (.ref a)) y1 y2 y3 y4 y5 y6 y7 y8 y9 y10 y11 y12 y13 y14 y15 y16 ∧
  SqL K (veil none H) a (ns.map V.int) ∧ TabS H T qLam
/-- the reading of a work's test -/
noncomputable abbrev tSays (P : Program) (w : World) (K : Kf) (mg : Str → Option Value) (x : Ad) (X : Cx) (σ : L2.St) : TT := tTest (tOp (rNeD K) (tUp K mg (fun _ B => CellsOk X σ B) (spErr P w K mg x.CM x.CL x.CS 8) (tCons (tVar 20) tNil)) (tVar 17))
theorem ht_last (Z : All P K mg x) (hr : Room 10 (A.deeper (envOfC "law" (defScope sLaw) s.heap.objs.size fa (.ref c)))) : HT (lawX P w K mg base fa c A s H0) (inFor 18) (NW K T a ns (lawX P w K mg base fa c A s H0).env.cells [w1, w2, w3, w4]) (N0e K T a ns) := by
  have B := Z.W.B
  have hu := hr.units
  refine ⟨_, ps_if (pt_cmpR (op_neD hu) (pe_lcAt (own := [("_law_work", 20), ("_law_told", 17)]) (tt := tSays P w K mg x (lawX P w K mg base fa c A s H0)) (te := fun _ => tVar 20) rfl scLaw.nd (pi_seq (pv 10)) (blkOk_by (by rfl))
      (fun _ _ _ _ _ => pg_pairB K rfl rfl (pg_name (i := 20) scLaw.nd rfl (.inl rfl)) (pg_name (i := 17) scLaw.nd rfl (.inl rfl)))
      (fun pins σ s2 H C cl fp I hfp => pts_one (by exact (pt_cmpR (op_neD hu) (pe_up (gives_blk law_plain (fun _ => rfl) I hfp) (err_any Z) (hr.mono (by decide)) (by rfl) Z.err.m Z.err.F.kp Z.err.b (pa_cons (pv 20) pa_nil)) (pv 17) (nomark _))))
      (fun pins σ s2 H C cl fp I => pv 20)) (pe_lst pa_nil) (nomark _)) (pss_one (ps_ret pe_bl)) pss_nil, ?_⟩
  rintro D _ H ⟨i, b, m, kk, l, ls, n, wr, wd, wk, ts, y3, y4, y5, y6, y7, y9, y12, y15, rfl, r⟩ k
  refine ⟨_, rfl, wk, ts, rfl, .inl ⟨sq_of r.lst, fun Dl hD => lc_it (n := ts.length) walk_list (fun _ H' => R5 K T a ns b m kk l ls n wr wd wk ts (lawX P w K mg base fa c A s H0).env.cells [w1, w2, w3, w4] H' ∧ H' Dl = some (.lst []) ∧ Dl ≠ b)
    ⟨r.step (.of (Ex.new hD)), upd_same, ne_box r.box hD⟩ (fun j H' _ p => sq_of p.1.lst) (fun j t H' H'' hj p y => ?_) (fun H' p => ?_)⟩⟩
  · obtain ⟨rfl, ht⟩ := y
    obtain ⟨r', hDl, hDb⟩ := p
    have hj4 : j < 4 := by have := r.len; simp at this; omega
    obtain ⟨e, he⟩ : ∃ e, ([w1, w2, w3, w4] : List Wk)[j]? = some e := ⟨_, List.getElem?_eq_getElem (by simpa using hj4)⟩
    obtain ⟨t', f, u, c', rfl, g2, g3, g4, g5⟩ := r'.ent j t e ht he
    refine ⟨t', _, rfl, st_of (cov_le _ _ g2), rfl, _, _, rfl, _, _, rfl, rfl, rfl, ?_⟩
    have g3' := cov_le _ _ g3
    have g4' := cov_le _ _ g4
    have g5' := cov_le _ _ g5
    have ub : u ≠ b := fun z => by
      obtain ⟨x, y, w, q⟩ := r'.box
      rw [z, q] at g5'; cases g5'
    -- how this work ends
    have how : ∀ (B1 : Heap), CellsOk (lawX P w K mg base fa c A s H0) (sW a i kk n wk b l m wr y3 y4 y5 y6 y7 y9 y12 y15) B1 → ∃ C, Ends1 P w K mg B1 8 f H'' (oneB b) (some (C, e.2.2 (n : Int))) ∧ ErrNm x.CM x.CL x.CS C e.2.1 ∧ PyData.strOk e.2.1 = true := fun B1 hC => by
      match j, he with
      | 0, he => cases he; exact ⟨x.CL, ends_w1 Z r' hC g3' g4', .inr (.inl ⟨rfl, rfl⟩), strok_late⟩
      | 1, he => cases he; exact ⟨x.CL, ends_w2 Z r' hC g3' g4', .inr (.inl ⟨rfl, rfl⟩), strok_late⟩
      | 2, he => cases he; exact ⟨x.CL, ends_w3 Z r' hC g3' g4', .inr (.inl ⟨rfl, rfl⟩), strok_late⟩
      | 3, he => cases he; exact ⟨x.CM, ends_w4 Z hC g3' g4', .inl ⟨rfl, rfl⟩, strok_mach⟩
      | j + 4, _ => omega
    refine ⟨_, rfl, fun B1 hK1 hN1 hC => ?_⟩
    obtain ⟨C, hE, hnm, hstr⟩ := how B1 hC
    refine ⟨f, _, oneB b, some (C, e.2.2 (n : Int)), rfl, g3', fun q hq => by rw [show q = b from hq]; exact r'.box, hE, (fun ho => nomatch ho), fun C' v' ho => ?_⟩
    cases ho
    refine ⟨e.2.1, hnm, fun p H3 bx hp0 _ hp => ⟨_, rfl, ?_⟩⟩
    have v3 : Vs T b H'' H3 := .bx r'.box bx
    refine ne_same hp (bx.keep u _ ub g5') hstr ⟨false, rfl, iteF ⟨r'.step v3, bx.keep Dl _ hDb hDl, hDb⟩⟩
  · obtain ⟨r', hDl, hDb⟩ := p
    refine ⟨sz_of (by show 0 ≤ 100000; decide), fun p hp => ⟨.list [], .list [], .lst (sq_of (Ex.new hp _ _ hDl)) .nil, .lst (sq_of upd_same) .nil, shaped_nil, shaped_nil, ?_⟩⟩
    have ev : PyData.eqv (.list []) (.list []) = true := by simp [PyData.eqv, PyData.eqvAll]
    rw [ev]
    refine ⟨false, rfl, iteF (k _ _ ⟨_, _, _, _, _, _, _, _, _, _, _, _, _, _, _, _, rfl, ?_, (r'.step (Vs.of (Ex.new hp))).tab⟩)⟩
    have r2 := r'.step (T := T) (Vs.of (Ex.new hp) : Vs T b H' (upd H' p (.lst [])))
    exact ex_l (hide_le.trans veil_drop) r2.scr
/-- one turn -/
theorem ht_turn (Z : All P K mg x) (hr : Room 10 (A.deeper (envOfC "law" (defScope sLaw) s.heap.objs.size fa (.ref c)))) (hg : A.guards = some []) (TB : TabB base mg c T) :
    HTs (lawX P w K mg base fa c A s H0) [inFor 0, inFor 1, inFor 2, inFor 3, inFor 4, inFor 5, inFor 6, inFor 7, inFor 8, inFor 9, inFor 10, inFor 11, inFor 12, inFor 13, inFor 14, inFor 15, inFor 16, inFor 17, inFor 18] (N0 K T a ns) (N0e K T a ns) :=
  ht_cons (ht_box Z hr) (ht_cons (ht_mk Z hr) (ht_cons (ht_kinds Z) (ht_cons (ht_ltn Z hr) (ht_cons (ht_back Z hr hg) (ht_cons (ht_window Z hr) (ht_cons (ht_behind Z hr) (ht_cons (ht_due Z) (ht_cons (ht_gap Z hr hg) (ht_cons (ht_tale Z hr) (ht_cons (ht_told Z hr hg)
    (ht_cons (ht_turns Z hr TB) (ht_cons (ht_bad Z hr) (ht_cons (ht_wrong Z) (ht_cons (ht_w1 Z TB) (ht_cons (ht_w2 Z TB) (ht_cons (ht_w3 Z TB) (ht_cons (ht_w4 Z TB) (ht_one (ht_last Z hr)))))))))))))))))))
theorem ht_loop (Z : All P K mg x) (hr : Room 10 (A.deeper (envOfC "law" (defScope sLaw) s.heap.objs.size fa (.ref c)))) (hg : A.guards = some []) (TB : TabB base mg c T) : HT (lawX P w K mg base fa c A s H0) (lawSt 3) (N0e K T a ns) (N0e K T a ns) :=
  ht_for (j := 1) (body := [inFor 0, inFor 1, inFor 2, inFor 3, inFor 4, inFor 5, inFor 6, inFor 7, inFor 8, inFor 9, inFor 10, inFor 11, inFor 12, inFor 13, inFor 14, inFor 15, inFor 16, inFor 17, inFor 18]) (passes_of rfl) rfl Z.W.B (by rfl) scLaw.nd rfl rfl (by decide) (ht_turn Z hr hg TB) fun σ H j hj h => by
    obtain ⟨y1, y2, y3, y4, y5, y6, y7, y8, y9, y10, y11, y12, y13, y14, y15, y16, rfl, hs, ht⟩ := h
    exact ⟨(j : Int), _, _, _, _, _, _, _, _, _, _, _, _, _, _, _, rfl, by omega, by omega, hs, ht⟩
end
end Fw
/-! law: the latch, and law whole -/
namespace Fw
open PySem PySem.Spec PyProof.Rows L2 Evl LamX
/-! ### displays as data -/
section
variable {K : Kf} {σ : L2.St} {H : Hp} {te : TE} {ta : TA}
def EvX (K : Kf) (te : TE) (σ : L2.St) (H : Hp) (d : PyData) : Prop := ∀ H1, Ex H H1 → ∀ Q : VK, (∀ v H2, Ex H1 H2 → Dp K H2 v d → Q v H2) → te σ H1 Q
def EvXs (K : Kf) (ta : TA) (σ : L2.St) (H : Hp) (ds : List PyData) : Prop := ∀ H1, Ex H H1 → ∀ Q : List V → Hp → Prop, (∀ vs H2, Ex H1 H2 → DpAll K H2 vs ds → Q vs H2) → ta σ H1 Q
theorem xs_nil : EvXs K tNil σ H [] := fun H1 _ Q q => q [] H1 (Ex.refl _) .nil
theorem xs_cons {d : PyData} {ds : List PyData} (h : EvX K te σ H d) (hs : EvXs K ta σ H ds) : EvXs K (tCons te ta) σ H (d :: ds) := fun H1 e Q q =>
  h H1 e _ fun v H2 e2 hv => hs H2 (e.trans e2) _ fun vs H3 e3 hvs => q _ H3 (e2.trans e3) (.cons (hv.ex e3) hvs)
theorem x_int {i : Int} : EvX K (tC (.int i)) σ H (.int i) := fun H1 _ Q q => q _ H1 (Ex.refl _) (.int i)
theorem x_tup {ds : List PyData} (h : EvXs K ta σ H ds) (hz : ds.length ≤ 100000) : EvX K (tTup ta) σ H (.tuple ds) := fun H1 e Q q =>
  h H1 e _ fun vs H2 e2 hvs => ⟨sz_of (by rw [da_len hvs]; exact hz), fun p hp => q _ _ (e2.trans (Ex.new hp)) (.tup (st_of upd_same) (hvs.ex (Ex.new hp)))⟩
theorem x_pair {i j : Int} : EvX K (tTup (tCons (tC (.int i)) (tCons (tC (.int j)) tNil))) σ H (.tuple [.int i, .int j]) := x_tup (xs_cons x_int (xs_cons x_int xs_nil)) (by show 2 ≤ 100000; decide)
end
mutual
theorem dp_veil0 {K : Kf} {H : Hp} : ∀ (d : PyData) (v : V), Dp K H v d → Dp K (veil none H) v d
  | .none, _, h => by cases h; exact .non
  | .bool c, _, h => by cases h; exact .bl c
  | .int i, _, h => by cases h; exact .int i
  | .str x, _, h => by cases h; exact .str x
  | .list ds, _, h => by
    cases h with
    | lst hs ha =>
      refine .lst ?_ (da_veil0 ds _ ha)
      rcases hs with (h | ⟨o, h⟩) | h
      · exact .inl (.inl (veil_of h (fun z => nomatch z) fun ps z => by cases z))
      · exact .inl (.inr ⟨o, veil_of h (fun z => nomatch z) fun ps z => by cases z⟩)
      · exact .inr h
  | .tuple ds, _, h => by
    cases h with
    | tup hs ha =>
      refine .tup ?_ (da_veil0 ds _ ha)
      rcases hs with (h | ⟨o, h⟩) | h
      · exact .inl (.inl (veil_of h (fun z => nomatch z) fun ps z => by cases z))
      · exact .inl (.inr ⟨o, veil_of h (fun z => nomatch z) fun ps z => by cases z⟩)
      · exact .inr h
  | .dict _, _, h => by cases h
theorem da_veil0 {K : Kf} {H : Hp} : ∀ (ds : List PyData) (vs : List V), DpAll K H vs ds → DpAll K (veil none H) vs ds
  | [], _, h => by cases h; exact .nil
  | d :: ds, _, h => by
    cases h with
    | cons h1 h2 => exact .cons (dp_veil0 d _ h1) (da_veil0 ds _ h2)
end
theorem sqL_veil0 {K : Kf} {H : Hp} {a : Addr} {xs : List V} (h : SqL K H a xs) : SqL K (veil none H) a xs := by
  rcases h with (h | ⟨o, h⟩) | h
  · exact .inl (.inl (veil_of h (fun z => nomatch z) fun ps z => by cases z))
  · exact .inl (.inr ⟨o, veil_of h (fun z => nomatch z) fun ps z => by cases z⟩)
  · exact .inr h
theorem latch_ok : MacOk [[1, 1], [0, 0]] [0, 1] := by
  refine ⟨by decide, by decide, by decide, by decide, fun ns h => ?_, fun y h => ?_⟩
  · simp at h
    rcases h with rfl | rfl
    · exact ⟨rfl, fun y h => by simp at h; subst h; exact ⟨by decide, by decide⟩⟩
    · exact ⟨rfl, fun y h => by simp at h; subst h; exact ⟨by decide, by decide⟩⟩
  · simp at h
    rcases h with rfl | rfl
    · exact ⟨by decide, by decide⟩
    · exact ⟨by decide, by decide⟩
abbrev tale3 : PyData := .tuple [.tuple [.int 5, .int 1], .tuple [.int 3, .int 0], .tuple [.int 2, .int 0]]
theorem tale_bad : toldFault [some 1, some 0] tale3 = some 2 := by decide +kernel
theorem tale_good : toldFault [some 2, some 0] tale3 = none := by decide +kernel
section
variable {P : Program} {w : World} {K : Kf} {mg : Str → Option Value} {base : Heap} {x : Ad} {fa c T : Addr} {A : Around} {s : Shared} {H0 : Hp} {a : Addr} {ns : List Int}
def M0 (K : Kf) (T a : Addr) (ns : List Int) (σ : L2.St) (H : Hp) : Prop := σ = start nLaw [.ref a] ∧ SqL K (veil none H) a (ns.map V.int) ∧ TabS H T qLam
/-- with the latch -/
def M1 (K : Kf) (T a : Addr) (ns : List Int) (σ : L2.St) (H : Hp) : Prop := ∃ m : V, σ = St17 (some (.ref a)) none none none none none none none none none none none (some m) none none none none ∧ SqL K (veil none H) a (ns.map V.int) ∧ TabS H T qLam ∧ MacV K (veil none H) m 2
theorem M1.step {σ : L2.St} {H H' : Hp} (h : M1 K T a ns σ H) (e : Ex (veil none H) (veil none H')) (t : TabS H' T qLam) : M1 K T a ns σ H' := let ⟨m, h1, h2, _, h4⟩ := h; ⟨m, h1, ex_l e h2, t, h4.ex e⟩
theorem ht_latch : HT (lawX P w K mg base fa c A s H0) (lawSt 0) (M0 K T a ns) (M1 K T a ns) := by
  refine ⟨_, ps_set (i := 12) scLaw.nd rfl (.inr rfl) (pe_tup (pa_cons (pe_tup (pa_cons (pe_tup (pa_cons pe_int (pa_cons pe_int pa_nil))) (pa_cons (pe_tup (pa_cons pe_int (pa_cons pe_int pa_nil))) pa_nil))) (pa_cons (pe_tup (pa_cons pe_int (pa_cons pe_int pa_nil))) pa_nil))), ?_⟩
  rintro D _ H ⟨rfl, hs, ht⟩ k
  have q : EvX K _ (start nLaw [.ref a]) H (macP [[1, 1], [0, 0]] [0, 1]) := x_tup (xs_cons (x_tup (xs_cons (x_pair (i := 1) (j := 1)) (xs_cons (x_pair (i := 0) (j := 0)) xs_nil)) (by show 2 ≤ 100000; decide)) (xs_cons (x_pair (i := 0) (j := 1)) xs_nil)) (by show 2 ≤ 100000; decide)
  exact q H (Ex.refl _) _ fun v H1 e1 hv => k _ _ ⟨v, rfl, ex_l (veil_ex e1) hs, ht.ext e1, ⟨_, _, dp_veil0 _ _ hv, latch_ok, rfl⟩⟩
theorem lateOk2 {i : Int} (h0 : 0 ≤ i) (h1 : i < 13) : LatOk [some i, some 0] 2 := ⟨rfl, fun t h => by
  simp at h
  rcases h with rfl | rfl
  · exact ⟨h0, h1⟩
  · exact ⟨by decide, by decide⟩⟩
/-- the lambdas over the latch: how they end -/
theorem ends_latch (Z : All P K mg x) {B : Heap} {f c' : Addr} {H : Hp} {m : V} {e : Expr} {i : Int} {p1 : Arguments} {bd : Expr} {sc : Scope} {o : Option Int} (i0 : 0 ≤ i) (i1 : i < 13) (hm : MacV K (veil none H) m 2) (C : CellsIn B nLaw (St17 (some (.ref a)) none none none none none none none none none none none (some m) none none none none) ⟨qLam, p1, bd, sc, cloFrom (lawX P w K mg base fa c A s H0).env.cells sc.names [], c'⟩)
    (L : LamP sc) (hb : ∀ pm ctv : Value, bindArgs (PySem.W.kla_fn "<lambda>" qLam p1 bd sc (cloFrom (lawX P w K mg base fa c A s H0).env.cells sc.names []) pm (.ref c') ctv) ⟨[], []⟩ = pure []) (hf : H f = some (LamO f ⟨qLam, p1, bd, sc, cloFrom (lawX P w K mg base fa c A s H0).env.cells sc.names [], c'⟩)) (hc : H c' = some (CodeO c' qLam)) (ho : toldFault [some i, some 0] tale3 = o)
    (hbody : ∀ (A2 : Around) (outer : List Env) (s2 : Shared) (E : XK), Room 7 (A2.deeper (PySem.W.envX qLam sc s2.heap.objs.size f (.ref c') (cloFrom (lawX P w K mg base fa c A s H0).env.cells sc.names []))) → PE (lamK P w K mg B nLaw ⟨qLam, p1, bd, sc, cloFrom (lawX P w K mg base fa c A s H0).env.cells sc.names [], c'⟩ f A2 outer s2 H E) bd
      (tCallS (spTold K x.CL x.CS) (WE fun cls d _ H => E cls d H) (tCons (tVar 12) (tCons (tTup (tCons (tC (.int i)) (tCons (tC (.int 0)) tNil))) (tCons (tTup (tCons (tTup (tCons (tC (.int 5)) (tCons (tC (.int 1)) tNil))) (tCons (tTup (tCons (tC (.int 3)) (tCons (tC (.int 0)) tNil))) (tCons (tTup (tCons (tC (.int 2)) (tCons (tC (.int 0)) tNil))) tNil)))) tNil))))) :
    Ends1 P w K mg B 8 f H noB (o.map fun j => (x.CS, j)) := by
  refine ends_lam (k := 7) L C hf hc hb hbody fun Qw Ew h1 h2 => ?_
  refine ⟨m, rfl, x_pair (K := K) (i := i) (j := 0) H (Ex.refl _) _ fun lv H1 e1 hlv => ?_⟩
  refine (x_tup (K := K) (xs_cons (x_pair (i := 5) (j := 1)) (xs_cons (x_pair (i := 3) (j := 0)) (xs_cons (x_pair (i := 2) (j := 0)) xs_nil))) (by show 3 ≤ 100000; decide)) H1 (Ex.refl _) _ fun v H2 e2 hv => ?_
  have e12 := e1.trans e2
  have hfl : latFault 2 (.tuple [.int i, .int 0]) = none := latFault_ok (ls := [some i, some 0]) (lateOk2 i0 i1) rfl
  refine ⟨m, lv, v, 2, _, tale3, rfl, hm.ex (veil_le.trans e12), hlv.ex e2, hv, (fun j hj => by rw [hfl] at hj; cases hj), fun _ ls' ok' hs => ?_⟩
  have el : ls' = [some i, some 0] := lat_inj (Option.some.inj (show some (ls'.map latP) = some ([some i, some 0].map latP) from hs.symm))
  subst el
  exact ⟨fun j hj d' H' e' hd' => h2 x.CS j (by rw [← ho, hj]; rfl) d' H' (.of (e12.trans e')) hd', fun hn rv H' e' _ => h1 (by rw [← ho, hn]; rfl) rv H' (.of (e12.trans e'))⟩
theorem ht_first (Z : All P K mg x) (hr : Room 10 (A.deeper (envOfC "law" (defScope sLaw) s.heap.objs.size fa (.ref c)))) (TB : TabB base mg c T) : HT (lawX P w K mg base fa c A s H0) (lawSt 1) (M1 K T a ns) (M1 K T a ns) := by
  have hu := hr.units
  refine ⟨_, ps_if (pt_cmpR (op_neD hu) (pe_up (gives_own law_plain fun _ => rfl) (err_any Z) (hr.mono (by decide)) (by rfl) Z.err.m Z.err.F.kp Z.err.b (pa_cons (pe_lamb (q := qLam) TB rfl (by rfl) (lamS_by (by rfl))) pa_nil))
      (pe_tup (pa_cons pe_str (pa_cons pe_int pa_nil))) (nomark _)) (pss_one (ps_ret pe_bl)) pss_nil, ?_⟩
  rintro D σ H hM k
  obtain ⟨m, rfl, hs, ht, hm⟩ := id hM
  refine ⟨ht, fun f c' H1 eN T1 hf0 hf hc => fun B1 hK1 hN1 hC => ?_⟩
  have v1 := veil_extN (b := none) eN
  refine ⟨f, _, noB, some (x.CS, 2), rfl, hf, fun _ z => z.elim, ends_latch Z (i := 1) (o := some 2) (e := .Constant .none 0 ⟨0, 0, 0, 0⟩) (by decide) (by decide) (hm.ex v1) (law_cells [("_law_latch", 12)] hC rfl (by decide +kernel) (fun q hq => ?_)) (lamP_by (by rfl)) lam_binds hf hc tale_bad
    (fun A2 outer s2 E hr2 => pe_dfx (W := fun cls d _ H => E cls d H) (ok_told Z.told Z.D Z.W Z.T) Z.told (hr2.mono (by decide)) (by rfl) (takes_of rfl rfl rfl rfl) (pa_cons (pv 12) (pa_cons (pe_tup (pa_cons pe_int (pa_cons pe_int pa_nil))) (pa_cons (pe_tup (pa_cons (pe_tup (pa_cons pe_int (pa_cons pe_int pa_nil))) (pa_cons (pe_tup (pa_cons pe_int (pa_cons pe_int pa_nil))) (pa_cons (pe_tup (pa_cons pe_int (pa_cons pe_int pa_nil))) pa_nil)))) pa_nil)))), (fun ho => nomatch ho), fun C j ho => ?_⟩
  · simp at hq; subst hq; exact ⟨_, rfl⟩
  · cases ho
    refine ⟨"story", .inr (.inr ⟨rfl, rfl⟩), fun p H2 bx hp0 _ hp => ⟨sz_of (by show 2 ≤ 100000; decide), fun p2 hp2 => ?_⟩⟩
    have e2 := bx.ex.trans (Ex.new (o := .tup [.str "story", .int 2]) hp2)
    exact ne_same (Ex.new hp2 _ _ hp) upd_same strok_story ⟨false, rfl, iteF (k _ _ (hM.step (v1.trans (veil_ex e2)) (T1.ext e2)))⟩
theorem ht_second (Z : All P K mg x) (hr : Room 10 (A.deeper (envOfC "law" (defScope sLaw) s.heap.objs.size fa (.ref c)))) (TB : TabB base mg c T) : HT (lawX P w K mg base fa c A s H0) (lawSt 2) (M1 K T a ns) (N0e K T a ns) := by
  have hu := hr.units
  refine ⟨_, ps_if (pt_cmpR op_notN (pe_up (gives_own law_plain fun _ => rfl) (err_any Z) (hr.mono (by decide)) (by rfl) Z.err.m Z.err.F.kp Z.err.b (pa_cons (pe_lamb (q := qLam) TB rfl (by rfl) (lamS_by (by rfl))) pa_nil))
      pe_non (nomark _)) (pss_one (ps_ret pe_bl)) pss_nil, ?_⟩
  rintro D σ H ⟨m, rfl, hs, ht, hm⟩ k
  refine ⟨ht, fun f c' H1 eN T1 hf0 hf hc => fun B1 hK1 hN1 hC => ?_⟩
  have v1 := veil_extN (b := none) eN
  refine ⟨f, _, noB, none, rfl, hf, fun _ z => z.elim, ends_latch Z (i := 2) (o := none) (e := .Constant .none 0 ⟨0, 0, 0, 0⟩) (by decide) (by decide) (hm.ex v1) (law_cells [("_law_latch", 12)] hC rfl (by decide +kernel) (fun q hq => ?_)) (lamP_by (by rfl)) lam_binds hf hc tale_good
    (fun A2 outer s2 E hr2 => pe_dfx (W := fun cls d _ H => E cls d H) (ok_told Z.told Z.D Z.W Z.T) Z.told (hr2.mono (by decide)) (by rfl) (takes_of rfl rfl rfl rfl) (pa_cons (pv 12) (pa_cons (pe_tup (pa_cons pe_int (pa_cons pe_int pa_nil))) (pa_cons (pe_tup (pa_cons (pe_tup (pa_cons pe_int (pa_cons pe_int pa_nil))) (pa_cons (pe_tup (pa_cons pe_int (pa_cons pe_int pa_nil))) (pa_cons (pe_tup (pa_cons pe_int (pa_cons pe_int pa_nil))) pa_nil)))) pa_nil)))), (fun _ H2 bx => ?_), fun C j ho => nomatch ho⟩
  · simp at hq; subst hq; exact ⟨_, rfl⟩
  · have e2 := bx.ex
    exact ⟨rfl, _, rfl, iteNS rfl (k _ _ ⟨_, _, _, _, _, _, _, _, _, _, _, _, _, _, _, _, rfl, ex_l (v1.trans (veil_ex e2)) hs, T1.ext e2⟩)⟩
/-- law: True, whatever the script -/
theorem law_body (Z : All P K mg x) (hr : Room 10 (A.deeper (envOfC "law" (defScope sLaw) s.heap.objs.size fa (.ref c)))) (hg : A.guards = some []) (TB : TabB base mg c T) (hs : SqL K H0 a (ns.map V.int)) (ht : H0 T = some (.tbl #[])) :
    ∃ t, PSs (lawX P w K mg base fa c A s H0) (defBody sLaw) t ∧ t { nx := fun _ H' => V.non = .bl true, rt := fun v _ => v = .bl true } (start nLaw [.ref a]) H0 := by
  obtain ⟨t0, p0, r0⟩ := ht_latch (P := P) (w := w) (K := K) (mg := mg) (base := base) (fa := fa) (c := c) (T := T) (A := A) (s := s) (H0 := H0) (a := a) (ns := ns)
  obtain ⟨t1, p1, r1⟩ := ht_first (ns := ns) (a := a) (H0 := H0) Z hr TB
  obtain ⟨t2, p2, r2⟩ := ht_second (ns := ns) (a := a) (H0 := H0) Z hr TB
  obtain ⟨t3, p3, r3⟩ := ht_loop (ns := ns) (a := a) (H0 := H0) Z hr hg TB
  refine ⟨_, pss_cons p0 (pss_cons p1 (pss_cons p2 (pss_cons p3 (pss_one (ps_ret pe_bl))))), ?_⟩
  exact r0 _ _ _ ⟨rfl, sqL_veil0 hs, .nil ht⟩ fun σ1 H1 h1 => r1 _ _ _ h1 fun σ2 H2 h2 => r2 _ _ _ h2 fun σ3 H3 h3 => r3 _ _ _ h3 fun σ4 H4 h4 => rfl
end
end Fw
/-! the end of the row: law called at the top, where nothing is being shown -/
namespace Fw
open PySem PySem.Spec PyProof.Rows L2 Evl LamX
section
variable {P : Program} {w : World} {K : Kf} {mg mb : Str → Option Value} {fa a c T : Addr} {z : Shared} {vs : List Value} {ns : List Int}
/-- the script's object -/
abbrev scrO (vs : List Value) : Obj := { cls := .type "list", data := .seq vs.toArray }
/-- the table as the top has left it -/
abbrev tabO : Obj := { cls := .none, data := .fields #[] }
open Classical in
/-- tracked at the start: the table, and the script where the written part does not hold it -/
noncomputable def first (K : Kf) (a T : Addr) (vs : List Value) (ns : List Int) : Hp := fun b => if b = T then some (.tbl #[]) else if b = a ∧ K.lookup a = none then some (.frz (scrO vs) (.lst (ns.map V.int))) else none
theorem first_T : first K a T vs ns T = some (.tbl #[]) := if_pos rfl
theorem first_at {b : Addr} {u : HO} (h : first K a T vs ns b = some u) : (b = T ∧ u = .tbl #[]) ∨ (b = a ∧ K.lookup a = none ∧ u = .frz (scrO vs) (.lst (ns.map V.int))) := by
  unfold first at h
  by_cases h1 : b = T
  · rw [if_pos h1] at h; cases h; exact .inl ⟨h1, rfl⟩
  · rw [if_neg h1] at h
    by_cases h2 : b = a ∧ K.lookup a = none
    · rw [if_pos h2] at h; cases h; exact .inr ⟨h2.1, h2.2, rfl⟩
    · rw [if_neg h2] at h; cases h
/-- what is neither is not tracked -/
theorem first_off {b : Addr} {o : Obj} (ha : z.heap.get? a = some (scrO vs)) (hT : z.heap.get? T = some tabO) (hb : z.heap.get? b = some o) (h1 : o ≠ scrO vs) (h2 : o ≠ tabO) : first K a T vs ns b = none := by
  cases q : first K a T vs ns b with
  | none => rfl
  | some u =>
    rcases first_at q with ⟨e, _⟩ | ⟨e, _⟩
    · rw [e, hT] at hb; exact absurd (Option.some.inj hb).symm h2
    · rw [e, ha] at hb; exact absurd (Option.some.inj hb).symm h1
theorem law_call (KX : K.In z.heap) (G : z.heap.Ns mainGlobals mg) (Gb : z.heap.Ns builtinsNs mb) (Gbb : ∀ y : Str, y ≠ "__name__" → mb y = bootBuiltins y) (hlim : z.heap.NoLimit) (hgen : z.gens = #[])
    (hT : z.heap.get? T = some tabO) (nT : K.lookup T = none) (hC : PySem.W.CodeHd z.heap c T) (hbm : ∃ (bm : Addr) (ob : Obj), mg "__builtins__" = some (.ref bm) ∧ bm ≠ builtinsNs ∧ z.heap.get? bm = some ob ∧ ob.cls = .type "module" ∧ ob.dict = some builtinsNs ∧ ob.data = .plain)
    (ha : z.heap.get? a = some (scrO vs)) (hi : IntsAre vs ns) (hl : ns.length ≤ 63)
    (run : ∀ (base : Heap) (H : Hp), TabB base mg c T → SqL K H a (ns.map V.int) → H T = some (.tbl #[]) → Env0 P w K mg base callerA [] z H → codeAny (model P w) callerA (.call (.ref fa) ⟨[.ref a], []⟩) (CR CX0 [] P w H z (fun v _ => v = .bl true) (fun _ _ _ => False)) z) :
    codeAny (model P w) callerA (.call (.ref fa) ⟨[.ref a], []⟩) (fun r y => r = .ok (.ret (.bool true)) ∧ OldK z.heap y.heap ∧ y.os = z.os ∧ AllBare y.gens) z := by
  have rv := vals_ints hi
  have small : ns.length ≤ sizeLine := Nat.le_trans hl (by decide)
  have aT : a ≠ T := fun e => by
    rw [e, hT] at ha
    have q : tabO = scrO vs := Option.some.inj ha
    have q' : Data.fields #[] = Data.seq vs.toArray _ := congrArg Obj.data q
    cases q'
  have byData : ∀ {b : Addr} {o : Obj}, z.heap.get? b = some o → (∀ us k, o.data ≠ .seq us k) → o.data ≠ .fields #[] → first K a T vs ns b = none := fun {b o} e d1 d2 =>
    first_off ha hT e (fun q => by subst q; exact d1 _ _ rfl) (fun q => by subst q; exact d2 rfl)
  have ofK : ∀ {b : Addr} {o : Obj}, K.lookup b = some o → first K a T vs ns b = none := fun {b o} e => by
    cases q : first K a T vs ns b with
    | none => rfl
    | some u =>
      rcases first_at q with ⟨e', _⟩ | ⟨e', n, _⟩
      · rw [e', nT] at e; cases e
      · rw [e', n] at e; cases e
  have stay : ∀ {b : Addr} {o : Obj}, z.heap.get? b = some o → first K a T vs ns b = none → (hidT z.heap (first K a T vs ns)).get? b = some o := fun e n => hidT_get e n
  have spaces : ∀ {b : Addr} {f : Str → Option Value}, z.heap.Ns b f → (hidT z.heap (first K a T vs ns)).Ns b f := fun {b f} h => by
    obtain ⟨o, es, k, e, d, rest⟩ := h
    exact ⟨o, es, k, stay e (byData e (fun us j q => by rw [d] at q; cases q) fun q => by rw [d] at q; cases q), d, rest⟩
  have kin : K.In (hidT z.heap (first K a T vs ns)) := fun b o e => stay (KX b o e) (ofK e)
  have mod : L2.Mod K mg (hidT z.heap (first K a T vs ns)) := by
    obtain ⟨ml, l1, l2⟩ := hlim
    exact ⟨kin, spaces G, ⟨mb, spaces Gb, Gbb⟩, ⟨ml, spaces l1, l2⟩⟩
  have tb : TabB (hidT z.heap (first K a T vs ns)) mg c T := by
    refine ⟨?_, ?_, fun e => ?_⟩
    · obtain ⟨o, us, file, tf, flags, tg, inF, text, tt, e1, e2, e3, e4, rest⟩ := hC
      refine ⟨o, us, file, tf, flags, tg, inF, text, tt, stay e1 (byData e1 (fun vs k q => by rw [e3] at q; cases q) fun q => ?_), e2, e3, e4, rest⟩
      rw [e3] at q
      cases q
      simp at e4
    · obtain ⟨bm, ob, b1, b2, b3, b4, b5, b6⟩ := hbm
      refine ⟨bm, ob, b1, b2, fun e => ?_, fun e => ?_, stay b3 (byData b3 (fun us k q => by rw [b6] at q; cases q) fun q => by rw [b6] at q; cases q), b4, b5, b6⟩
      · obtain ⟨o, es, k, e1, d, _⟩ := G
        rw [e, e1] at b3
        cases b3
        rw [d] at b6; cases b6
      · rw [e, hT] at b3
        cases b3
        cases b6
    · obtain ⟨o, es, k, e1, d, _⟩ := G
      rw [e, hT] at e1
      cases e1
      cases d
  have ok : HOk P w (first K a T vs ns) z.heap := fun b u e => by
    rcases first_at e with ⟨rfl, rfl⟩ | ⟨rfl, _, rfl⟩
    · exact hT
    · exact ⟨ha, by rw [List.length_map]; exact small, vs, _, rv, ha⟩
  have sq : SqL K (first K a T vs ns) a (ns.map V.int) := by
    cases q : K.lookup a with
    | none =>
      refine .inl (.inr ⟨scrO vs, ?_⟩)
      unfold first
      rw [if_neg aT, if_pos ⟨rfl, q⟩]
    | some o =>
      have e := KX a o q
      rw [ha] at e
      cases e
      exact .inr ⟨_, vs.toArray, _, q, rfl, rfl, rfl, by rw [List.size_toArray, hi.length]; exact small, by simpa using rv⟩
  have env : Env0 P w K mg (hidT z.heap (first K a T vs ns)) callerA [] z (first K a T vs ns) :=
    { frames := rfl, mod := mod, bs := fun b o e => of_hidT e, bsz := Nat.le_of_eq (hidT_size _ _), funs := trivial, frf := fun b hb => (List.not_mem_nil hb).elim, hok := ok, bare := .of_eq hgen }
  refine codeAny_mono (run _ _ tb sq first_T env) fun r y h => ?_
  match r, h with
  | .error _, h => exact False.elim h
  | .ok .next, h => exact False.elim h
  | .ok .brk, h => exact False.elim h
  | .ok .cont, h => exact False.elim h
  | .ok (.ret u), h =>
    obtain ⟨v, H', hos, hbare, un, hok', hrel, hv⟩ := h
    have hv' : v = .bl true := hv
    subst hv'
    obtain rfl : u = .bool true := hrel
    obtain ⟨more, hm⟩ := un.tbls T #[] first_T
    have hT' : y.heap.get? T = some { cls := .none, data := .fields (#[] ++ more) } := hok' T _ hm
    have others : ∀ {b : Addr} {o : Obj}, b ≠ T → z.heap.get? b = some o → y.heap.get? b = some o := fun {b o} nb e => by
      cases q : first K a T vs ns b with
      | none => exact un.keep b o e q (fun hm => List.not_mem_nil hm) (by simp)
      | some u =>
        rcases first_at q with ⟨e', _⟩ | ⟨e', _, eu⟩
        · exact absurd e' nb
        · subst eu
          have q2 : H' b = some (.frz (scrO vs) (.lst (ns.map V.int))) := un.frzs b _ _ q
          obtain ⟨g, _⟩ := hok' b _ q2
          rw [e', ha] at e
          cases e
          exact g
    refine ⟨rfl, ⟨fun b o e => ?_, fun b o e => ?_⟩, hos, hbare⟩
    · by_cases nb : b = T
      · subst nb
        rw [hT] at e
        cases e
        exact .inr (.inl ⟨((hC.tab hT).isCodeTable), rfl, #[], more, rfl, hT'⟩)
      · exact .inl (others nb e)
    · by_cases nb : b = T
      · subst nb; exact ⟨_, hT'⟩
      · exact ⟨o, others nb e⟩
end
/-- law's row, from what the top leaves -/
theorem walk_law {l : PySem.W.OpenLaw} {q : Program} {loose : List Str} {XP : (Str → Option Value) → Heap → Prop} {YP : World → Heap → Prop} {d : DefRec} {K : Params → Kf} (hn : l.most = some 63) (hdf : d.params.defaults = []) (hY : ∀ (w : World) (h : Heap), YP w h → (K w.params).In h) (hrec : ((recsOf q).any fun e => e.name == d.name) = true)
    (F : ∀ (w : World) (mg : Str → Option Value) (fa : Addr) (h : Heap), (K w.params).In h → h.Ns mainGlobals mg → mg d.name = some (.ref fa) →
      ∃ (x : Ad) (c T : Addr) (fd : FuncData), All l.prog (K w.params) mg x ∧ (∃ oc od kV doc pm an ct osl, fd = PySem.W.fnOf "law" "law" (defArgs sLaw) (defBody sLaw) (defScope sLaw) .none kV doc pm an (.ref c) ct ∧ (K w.params).lookup fa = some ⟨oc, od, .func fd, osl⟩) ∧ PySem.W.codeIn (K w.params) (.ref c) "law" = true ∧
        PySem.W.codeHdIn (K w.params) c T = true ∧ (∃ e dd us sl, (K w.params).lookup c = some ⟨e, dd, .fields us, sl⟩ ∧ us[11]? = some (.ref T)) ∧ (K w.params).lookup T = none) :
    PySem.W.WalkO q loose XP YP l.row.toRowW d [] (fun f vs => PySem.call f vs) := by
  refine Att.attach_callB hn hdf fun w s₀ z mg mb fa o pm cd doc a vs ns G Y ho hd hcd hmg hobj hints hlen hbits hgen => ?_
  have KX := hY w _ Y
  obtain ⟨x, c, T, fd, Z, ⟨oc, od, kV, doc2, pm2, an, ct, osl, rfl, lk⟩, hcode, hhd, ⟨e, dd, us, sl, lc, l11⟩, nT⟩ := F w mg fa _ KX G.T.g hmg
  have hT : z.heap.get? T = some tabO := by
    obtain ⟨dL, hm, hn1⟩ := List.any_eq_true.mp hrec
    obtain ⟨a', o', fd', c', P', h1, h2, h3, h4, h5, h6⟩ := G.T.tab dL hm
    rw [beq_iff_eq.mp hn1, hmg] at h1
    cases h1
    have g1 := KX _ _ lk
    rw [g1] at h2
    cases h2
    cases h3
    cases h4
    obtain ⟨⟨oc', vc, e1, _, e3, e4⟩, hP⟩ := h6
    have g2 := KX _ _ lc
    rw [g2] at e1
    cases e1
    cases e3
    rw [l11] at e4
    cases e4
    exact hP
  refine law_call KX G.T.g G.T.b G.T.builtins G.T.nolimit hgen hT nT (PySem.W.codeHd_of_K KX hhd) G.T.bmain hobj hints hlen fun base H tb sq hH env => ?_
  refine LamX.run_ofS (k := 10) (vs := [.ref a]) (us := [.ref a]) lk hcode scLaw ⟨rfl, by decide, by decide⟩ env (.of_eq rfl) (.cons rfl .nil) rfl fun hr => ?_
  obtain ⟨t, q1, q2⟩ := law_body (P := l.prog) (w := w) (s := z) (H0 := H) (A := callerA) (fa := fa) Z hr rfl tb sq hH
  exact ⟨t, q1, q2⟩
end Fw
/-! from the facts of the written part to the words of the proof -/
namespace Fw
open PySem PySem.W PySem.Calls PyProof.Rows PySem.HandSPX L2
section
variable {K : Frag} {h : Heap} {mg : Str → Option Value}
theorem dfn_mk {nm : Str} {st : Stmt} {ps : List Str} {f : Addr} {oc kV doc pm cdv ct : Value} {od an : Option Addr} {osl : Array (Option Value)} (X : K.In h) (G : h.Ns mainGlobals mg) (h1 : nsIn K mainGlobals nm = some (some (.ref f))) (h2 : K.lookup f = some ⟨oc, od, .func (fnOf nm nm (defArgs st) (defBody st) (defScope st) .none kV doc pm an cdv ct), osl⟩)
    (h3 : codeIn K cdv nm = true) (h4 : keepIn K (.ref f) = true) (h5 : ∀ (kV doc pm : Value) (an : Option Addr) (cdv ct : Value) (us : List Value), us.length = ps.length → bindArgs (fnOf nm nm (defArgs st) (defBody st) (defScope st) .none kV doc pm an cdv ct) ⟨us, []⟩ = pure (ps.zip us)) :
    Dfn K mg nm st ps f (fnOf nm nm (defArgs st) (defBody st) (defScope st) .none kV doc pm an cdv ct) := ⟨fun_mk h2 h3 h4, mg_of X G h1, Fun.binds (fun_mk h2 h3 h4) h5⟩
theorem at_mk {P : Program} {C fI TW : Addr} {nm q : Str} {N : Addr} {bs : List Value} {sn : List Str} {sub : List Value} {ab : Bool} {col : Option Bool} {dd : Option Addr} {k0 k1 k2 k3 k5 : Option Value} {oc doc pm kV ct : Value} {od an : Option Addr} {cda cc : Addr} {osl ccs csl : Array (Option Value)} {p1 p2 : Pos} {ps : Nat → Pos} {z qn : Str} {ccl cl : Value} {cdd cld : Option Addr} {vs : Array Value} {file : Str} {tf : Tok}
    (X : K.In h) (G : h.Ns mainGlobals mg)
    (xL : K.lookup C = some (excClassObj nm q C N bs [.ref TW, .type "Exception", .type "BaseException", .type "object"] true sn sub ab col dd k0 k1 k2 k3 k5 "Exception.__new__"))
    (al : alongIn K "__init__" [.ref TW, .type "Exception", .type "BaseException", .type "object"] = some (some (.builtin "Exception.__init__"))) (tl : excTail exTl [.ref TW, .type "Exception", .type "BaseException", .type "object"] = true)
    (sa : findIn K (.ref C) "__setattr__" = some (some (.builtin "object.__setattr__"))) (ga : findIn K (.ref C) "__getattribute__" = some (some (.builtin "BaseException.__getattribute__"))) (gg : findIn K (.ref C) "__getattr__" = some none) (na : findIn K (.ref C) "at" = some none)
    (iC : findIn K (.ref C) "__init__" = some (some (.ref fI))) (tC : typeIn K (.ref fI) = some (.type "function")) (kC : keepIn K (.ref C) = true) (eC : subIn K (.ref C) (.type "BaseException") = some true) (eE : subIn K (.ref C) (.type "Exception") = some true) (eS : mroIn K C (.ref C) = some true)
    (yC : typeIn K (.ref C) = some (.type "type")) (dC : hasDictIn K C = true) (op : nsIn K cStatics "thirdparty.any" = some none) (su : nsIn K mainGlobals "super" = some none) (ts : (P.main.scope.names.lookup ("super" : Str)).isSome = false)
    (fL : K.lookup fI = some ⟨oc, od, .func (fnX "__init__" qn (iA p1 p2) (iB z ps) iS [("__class__", cc)] .none kV doc pm an (.ref cda) ct), osl⟩) (fc : codeIn K (.ref cda) qn = true) (cL : K.lookup cda = some ⟨ccl, cdd, .fields vs, ccs⟩) (vf : vs[2]? = some (.str file tf)) (pf : ((P.main.file : Str) == file) = true) (eL : K.lookup cc = some ⟨cl, cld, .cell (some (.ref C)), csl⟩)
    (ev : ∀ env : Env, ∃ pl : Sem Bool, eval (iSup z ps) env = (do
        let ov ← attributeBase (.Call (.Name "super" (ps 0)) [] [] (ps 1)) "__init__" env (eval (.Call (.Name "super" (ps 0)) [] [] (ps 1)) env)
        standAt (ps 2).atName
        let (f, first) ← holding [ov] (getMethod ov "__init__" pl)
        callWith (ps 4) f first (backTo (ps 4) (starEach [.Constant (.str z) 0 (ps 3)] env)) [])) : AtTxt P K mg C fI :=
  { cls := ⟨nm, q, N, bs, _, sn, sub, ab, col, dd, k0, k1, k2, k3, k5, xL, tl, al⟩, sa := sa, ga := ga, gg := gg, noN := na, iC := iC, tC := tC, kC := kC, exC := eC, exE := eE, exS := eS, tyC := yC, hdC := dC, op := op, sup := mg_none_of X G su, tsup := ts,
    fn := ⟨oc, od, doc, pm, kV, an, cda, cc, ct, osl, p1, p2, ps, z, qn, ccl, cl, cdd, cld, vs, ccs, csl, file, tf, fL, fc, cL, vf, pf, eL, ev⟩ }
/-- which clause takes an own error -/
theorem exm_gen {C S : Addr} {b : Bool} (h1 : subIn K (.ref S) (.type "BaseException") = some true) (h2 : isClsIn K S = true) (h3 : typeIn K (.ref S) = some (.type "type")) (h4 : subIn K (.ref C) (.ref S) = some b) : exmOne K (.ref C) (.ref S) = some b := by
  have h2' : (clsIn K S).isSome = true := h2
  simp [exmOne, kitCls, h1, h2', h3, h4]
end
def posM : Nat → Pos
  | 0 => ⟨7, 8, 7, 13⟩
  | 1 => ⟨7, 8, 7, 15⟩
  | 2 => ⟨7, 8, 7, 24⟩
  | 3 => ⟨7, 25, 7, 40⟩
  | 4 => ⟨7, 8, 7, 41⟩
  | 5 => ⟨8, 8, 8, 12⟩
  | 6 => ⟨8, 8, 8, 15⟩
  | 7 => ⟨8, 18, 8, 20⟩
  | _ => ⟨8, 8, 8, 20⟩
def posS : Nat → Pos
  | 0 => ⟨12, 8, 12, 13⟩
  | 1 => ⟨12, 8, 12, 15⟩
  | 2 => ⟨12, 8, 12, 24⟩
  | 3 => ⟨12, 25, 12, 38⟩
  | 4 => ⟨12, 8, 12, 39⟩
  | 5 => ⟨13, 8, 13, 12⟩
  | 6 => ⟨13, 8, 13, 15⟩
  | 7 => ⟨13, 18, 13, 20⟩
  | _ => ⟨13, 8, 13, 20⟩
def posL : Nat → Pos
  | 0 => ⟨17, 8, 17, 13⟩
  | 1 => ⟨17, 8, 17, 15⟩
  | 2 => ⟨17, 8, 17, 24⟩
  | 3 => ⟨17, 25, 17, 48⟩
  | 4 => ⟨17, 8, 17, 49⟩
  | 5 => ⟨18, 8, 18, 12⟩
  | 6 => ⟨18, 8, 18, 15⟩
  | 7 => ⟨18, 18, 18, 20⟩
  | _ => ⟨18, 8, 18, 20⟩
theorem fin_mk {P : Program} {K : Frag} {h : Heap} {mg : Str → Option Value} {fa f c T : Addr} {x : Ad} {oc kV doc pm ct : Value} {od an : Option Addr} {osl : Array (Option Value)} {e : Value} {dd : Option Addr} {us : Array Value} {sl : Array (Option Value)} (X : K.In h) (G : h.Ns mainGlobals mg) (hmg : mg "law" = some (.ref fa)) (a : nsIn K mainGlobals "law" = some (some (.ref f)))
    (l : K.lookup f = some ⟨oc, od, .func (fnOf "law" "law" (defArgs sLaw) (defBody sLaw) (defScope sLaw) .none kV doc pm an (.ref c) ct), osl⟩) (hc : codeIn K (.ref c) "law" = true) (lc : K.lookup c = some ⟨e, dd, .fields us, sl⟩) (e11 : us[11]? = some (.ref T)) (hd : codeHdIn K c T = true) (nT : K.lookup T = none) (Z : All P K mg x) :
    ∃ (x : Ad) (c T : Addr) (fd : FuncData), All P K mg x ∧ (∃ oc od kV doc pm an ct osl, fd = fnOf "law" "law" (defArgs sLaw) (defBody sLaw) (defScope sLaw) .none kV doc pm an (.ref c) ct ∧ K.lookup fa = some ⟨oc, od, .func fd, osl⟩) ∧ codeIn K (.ref c) "law" = true ∧
      codeHdIn K c T = true ∧ (∃ e dd us sl, K.lookup c = some ⟨e, dd, .fields us, sl⟩ ∧ us[11]? = some (.ref T)) ∧ K.lookup T = none := by
  have q := hmg.symm.trans (mg_of X G a)
  cases q
  exact ⟨x, c, T, _, Z, ⟨_, _, _, _, _, _, _, _, rfl, l⟩, hc, hd, ⟨_, _, _, _, lc, e11⟩, nT⟩
/-- the same words, the written part named by what stands there -/
def ExDfn {K : Frag} {h : Heap} (_ : K.In h) (mg : Str → Option Value) (nm : Str) (st : Stmt) (ps : List Str) : Prop := ∃ f fd, Dfn K mg nm st ps f fd
def ExErs {K : Frag} {h : Heap} (_ : K.In h) (P : Program) (mg : Str → Option Value) : Prop := ∃ CM CL CS iM iL iS, Ers P K mg CM CL CS iM iL iS ∧ ErsX K CM CL CS
end Fw
open PySem PySem.W PyProof.Rows
set_option maxRecDepth 100000 in
set_option maxHeartbeats 0 in
theorem PySem.Challenge.cw_forgetwhen_k37_whole_lateness_and_told_s_holds : PySem.Challenge.rw_forgetwhen_k37_whole_lateness_and_told_s.Holds := by
  w_on; o_law; k_head; (case hw => w_witness2)
  k_fill
  refine Fw.walk_law (l := PySem.Challenge.rw_forgetwhen_k37_whole_lateness_and_told_s) rfl rfl (fun w h Y => PySem.W.km_in_of Y) ?hrec ?F
  case hrec => first | rfl | decide +kernel | kernel_rfl
  case F =>
    intro w mg fa h KX G hmg0
    have hmg : mg "law" = some (.ref fa) := hmg0
    clear hmg0
    have D_int : Fw.ExDfn KX mg "is_integer" Fw.sInt ["value"] := by
      unfold Fw.ExDfn
      refine' ⟨_, _, Fw.dfn_mk KX G ?a ?l ?c ?k fun _ _ _ _ _ _ us hl => match us, hl with | [_], _ => rfl⟩
      (case a => k_is); (case l => k_is); (case c => k_is); (case k => k_is)
    obtain ⟨f_int, e_int, D_int⟩ := D_int
    have D_num : Fw.ExDfn KX mg "is_number" Fw.sNum ["value"] := by
      unfold Fw.ExDfn
      refine' ⟨_, _, Fw.dfn_mk KX G ?a ?l ?c ?k fun _ _ _ _ _ _ us hl => match us, hl with | [_], _ => rfl⟩
      (case a => k_is); (case l => k_is); (case c => k_is); (case k => k_is)
    obtain ⟨f_num, e_num, D_num⟩ := D_num
    have D_below : Fw.ExDfn KX mg "is_below" Fw.sBelow ["value", "many"] := by
      unfold Fw.ExDfn
      refine' ⟨_, _, Fw.dfn_mk KX G ?a ?l ?c ?k fun _ _ _ _ _ _ us hl => match us, hl with | [_, _], _ => rfl⟩
      (case a => k_is); (case l => k_is); (case c => k_is); (case k => k_is)
    obtain ⟨f_below, e_below, D_below⟩ := D_below
    have D_seq : Fw.ExDfn KX mg "is_sequence" Fw.sSeq ["value"] := by
      unfold Fw.ExDfn
      refine' ⟨_, _, Fw.dfn_mk KX G ?a ?l ?c ?k fun _ _ _ _ _ _ us hl => match us, hl with | [_], _ => rfl⟩
      (case a => k_is); (case l => k_is); (case c => k_is); (case k => k_is)
    obtain ⟨f_seq, e_seq, D_seq⟩ := D_seq
    have D_pair : Fw.ExDfn KX mg "is_pair" Fw.sPair ["value"] := by
      unfold Fw.ExDfn
      refine' ⟨_, _, Fw.dfn_mk KX G ?a ?l ?c ?k fun _ _ _ _ _ _ us hl => match us, hl with | [_], _ => rfl⟩
      (case a => k_is); (case l => k_is); (case c => k_is); (case k => k_is)
    obtain ⟨f_pair, e_pair, D_pair⟩ := D_pair
    have D_row : Fw.ExDfn KX mg "is_row_below" Fw.sRow ["value", "length", "bound"] := by
      unfold Fw.ExDfn
      refine' ⟨_, _, Fw.dfn_mk KX G ?a ?l ?c ?k fun _ _ _ _ _ _ us hl => match us, hl with | [_, _, _], _ => rfl⟩
      (case a => k_is); (case l => k_is); (case c => k_is); (case k => k_is)
    obtain ⟨f_row, e_row, D_row⟩ := D_row
    have D_mach : Fw.ExDfn KX mg "need_machine" Fw.sMach ["value"] := by
      unfold Fw.ExDfn
      refine' ⟨_, _, Fw.dfn_mk KX G ?a ?l ?c ?k fun _ _ _ _ _ _ us hl => match us, hl with | [_], _ => rfl⟩
      (case a => k_is); (case l => k_is); (case c => k_is); (case k => k_is)
    obtain ⟨f_mach, e_mach, D_mach⟩ := D_mach
    have D_news : Fw.ExDfn KX mg "is_news" Fw.sNews ["maps", "value"] := by
      unfold Fw.ExDfn
      refine' ⟨_, _, Fw.dfn_mk KX G ?a ?l ?c ?k fun _ _ _ _ _ _ us hl => match us, hl with | [_, _], _ => rfl⟩
      (case a => k_is); (case l => k_is); (case c => k_is); (case k => k_is)
    obtain ⟨f_news, e_news, D_news⟩ := D_news
    have D_late : Fw.ExDfn KX mg "need_lateness" (Fw.topS 23) ["machine", "value"] := by
      unfold Fw.ExDfn
      refine' ⟨_, _, Fw.dfn_mk KX G ?a ?l ?c ?k fun _ _ _ _ _ _ us hl => match us, hl with | [_, _], _ => rfl⟩
      (case a => k_is); (case l => k_is); (case c => k_is); (case k => k_is)
    obtain ⟨f_late, e_late, D_late⟩ := D_late
    have D_kin : Fw.ExDfn KX mg "kinds_at" Fw.sKin ["lateness", "behind"] := by
      unfold Fw.ExDfn
      refine' ⟨_, _, Fw.dfn_mk KX G ?a ?l ?c ?k fun _ _ _ _ _ _ us hl => match us, hl with | [_, _], _ => rfl⟩
      (case a => k_is); (case l => k_is); (case c => k_is); (case k => k_is)
    obtain ⟨f_kin, e_kin, D_kin⟩ := D_kin
    have D_wof : Fw.ExDfn KX mg "window_of" Fw.sWof ["lateness"] := by
      unfold Fw.ExDfn
      refine' ⟨_, _, Fw.dfn_mk KX G ?a ?l ?c ?k fun _ _ _ _ _ _ us hl => match us, hl with | [_], _ => rfl⟩
      (case a => k_is); (case l => k_is); (case c => k_is); (case k => k_is)
    obtain ⟨f_wof, e_wof, D_wof⟩ := D_wof
    have D_win : Fw.ExDfn KX mg "window" (Fw.topS 25) ["machine", "lateness"] := by
      unfold Fw.ExDfn
      refine' ⟨_, _, Fw.dfn_mk KX G ?a ?l ?c ?k fun _ _ _ _ _ _ us hl => match us, hl with | [_, _], _ => rfl⟩
      (case a => k_is); (case l => k_is); (case c => k_is); (case k => k_is)
    obtain ⟨f_win, e_win, D_win⟩ := D_win
    have D_gap : Fw.ExDfn KX mg "gap_kinds" (Fw.topS 27) ["machine", "lateness", "behind"] := by
      unfold Fw.ExDfn
      refine' ⟨_, _, Fw.dfn_mk KX G ?a ?l ?c ?k fun _ _ _ _ _ _ us hl => match us, hl with | [_, _, _], _ => rfl⟩
      (case a => k_is); (case l => k_is); (case c => k_is); (case k => k_is)
    obtain ⟨f_gap, e_gap, D_gap⟩ := D_gap
    have D_told : Fw.ExDfn KX mg "need_told" Fw.sTold ["machine", "lateness", "value"] := by
      unfold Fw.ExDfn
      refine' ⟨_, _, Fw.dfn_mk KX G ?a ?l ?c ?k fun _ _ _ _ _ _ us hl => match us, hl with | [_, _, _], _ => rfl⟩
      (case a => k_is); (case l => k_is); (case c => k_is); (case k => k_is)
    obtain ⟨f_told, e_told, D_told⟩ := D_told
    have D_box : Fw.ExDfn KX mg "_law_box" Fw.sBox ["_law_script", "_law_k"] := by
      unfold Fw.ExDfn
      refine' ⟨_, _, Fw.dfn_mk KX G ?a ?l ?c ?k fun _ _ _ _ _ _ us hl => match us, hl with | [_, _], _ => rfl⟩
      (case a => k_is); (case l => k_is); (case c => k_is); (case k => k_is)
    obtain ⟨f_box, e_box, D_box⟩ := D_box
    have D_take : Fw.ExDfn KX mg "_law_take" Fw.sTake ["_law_box_here", "_law_many"] := by
      unfold Fw.ExDfn
      refine' ⟨_, _, Fw.dfn_mk KX G ?a ?l ?c ?k fun _ _ _ _ _ _ us hl => match us, hl with | [_, _], _ => rfl⟩
      (case a => k_is); (case l => k_is); (case c => k_is); (case k => k_is)
    obtain ⟨f_take, e_take, D_take⟩ := D_take
    have D_pick : Fw.ExDfn KX mg "_law_pick" Fw.sPick ["_law_box_here", "_law_some"] := by
      unfold Fw.ExDfn
      refine' ⟨_, _, Fw.dfn_mk KX G ?a ?l ?c ?k fun _ _ _ _ _ _ us hl => match us, hl with | [_, _], _ => rfl⟩
      (case a => k_is); (case l => k_is); (case c => k_is); (case k => k_is)
    obtain ⟨f_pick, e_pick, D_pick⟩ := D_pick
    have D_map : Fw.ExDfn KX mg "_law_map" (Fw.topS 33) ["_law_box_here", "_law_states"] := by
      unfold Fw.ExDfn
      refine' ⟨_, _, Fw.dfn_mk KX G ?a ?l ?c ?k fun _ _ _ _ _ _ us hl => match us, hl with | [_, _], _ => rfl⟩
      (case a => k_is); (case l => k_is); (case c => k_is); (case k => k_is)
    obtain ⟨f_map, e_map, D_map⟩ := D_map
    have D_mkm : Fw.ExDfn KX mg "_law_machine" Fw.sMk ["_law_box_here", "_law_most", "_law_kinds"] := by
      unfold Fw.ExDfn
      refine' ⟨_, _, Fw.dfn_mk KX G ?a ?l ?c ?k fun _ _ _ _ _ _ us hl => match us, hl with | [_, _, _], _ => rfl⟩
      (case a => k_is); (case l => k_is); (case c => k_is); (case k => k_is)
    obtain ⟨f_mkm, e_mkm, D_mkm⟩ := D_mkm
    have D_ltn : Fw.ExDfn KX mg "_law_lateness" Fw.sLtn ["_law_box_here", "_law_kinds", "_law_most"] := by
      unfold Fw.ExDfn
      refine' ⟨_, _, Fw.dfn_mk KX G ?a ?l ?c ?k fun _ _ _ _ _ _ us hl => match us, hl with | [_, _, _], _ => rfl⟩
      (case a => k_is); (case l => k_is); (case c => k_is); (case k => k_is)
    obtain ⟨f_ltn, e_ltn, D_ltn⟩ := D_ltn
    have D_tale : Fw.ExDfn KX mg "_law_told_story" Fw.sTale ["_law_box_here", "_law_lateness_here", "_law_many", "_law_gap"] := by
      unfold Fw.ExDfn
      refine' ⟨_, _, Fw.dfn_mk KX G ?a ?l ?c ?k fun _ _ _ _ _ _ us hl => match us, hl with | [_, _, _, _], _ => rfl⟩
      (case a => k_is); (case l => k_is); (case c => k_is); (case k => k_is)
    obtain ⟨f_tale, e_tale, D_tale⟩ := D_tale
    have D_lib : Fw.ExDfn KX mg "_law_is_below" Fw.sLib ["_law_value", "_law_bound"] := by
      unfold Fw.ExDfn
      refine' ⟨_, _, Fw.dfn_mk KX G ?a ?l ?c ?k fun _ _ _ _ _ _ us hl => match us, hl with | [_, _], _ => rfl⟩
      (case a => k_is); (case l => k_is); (case c => k_is); (case k => k_is)
    obtain ⟨f_lib, e_lib, D_lib⟩ := D_lib
    have D_fault : Fw.ExDfn KX mg "_law_fault" Fw.sFault ["_law_value", "_law_lateness_here"] := by
      unfold Fw.ExDfn
      refine' ⟨_, _, Fw.dfn_mk KX G ?a ?l ?c ?k fun _ _ _ _ _ _ us hl => match us, hl with | [_, _], _ => rfl⟩
      (case a => k_is); (case l => k_is); (case c => k_is); (case k => k_is)
    obtain ⟨f_fault, e_fault, D_fault⟩ := D_fault
    have D_spoil : Fw.ExDfn KX mg "_law_spoilt" Fw.sSpoil ["_law_box_here", "_law_story", "_law_kinds"] := by
      unfold Fw.ExDfn
      refine' ⟨_, _, Fw.dfn_mk KX G ?a ?l ?c ?k fun _ _ _ _ _ _ us hl => match us, hl with | [_, _, _], _ => rfl⟩
      (case a => k_is); (case l => k_is); (case c => k_is); (case k => k_is)
    obtain ⟨f_spoil, e_spoil, D_spoil⟩ := D_spoil
    have D_err : Fw.ExDfn KX mg "_law_error" Fw.sErr ["_law_work"] := by
      unfold Fw.ExDfn
      refine' ⟨_, _, Fw.dfn_mk KX G ?a ?l ?c ?k fun _ _ _ _ _ _ us hl => match us, hl with | [_], _ => rfl⟩
      (case a => k_is); (case l => k_is); (case c => k_is); (case k => k_is)
    obtain ⟨f_err, e_err, D_err⟩ := D_err
    have BB : Fw.Blt mg := by
      refine ⟨mg_none_of KX G ?bisi, mg_none_of KX G ?bint, mg_none_of KX G ?bbool, mg_none_of KX G ?blist, mg_none_of KX G ?btuple, mg_none_of KX G ?blen, mg_none_of KX G ?ball, mg_none_of KX G ?benum, mg_none_of KX G ?bmax, mg_none_of KX G ?bmin, mg_none_of KX G ?babs, mg_none_of KX G ?brange, mg_none_of KX G ?bsorted, mg_none_of KX G ?brepr⟩
      (case bisi => k_is)
      (case bint => k_is)
      (case bbool => k_is)
      (case blist => k_is)
      (case btuple => k_is)
      (case blen => k_is)
      (case ball => k_is)
      (case benum => k_is)
      (case bmax => k_is)
      (case bmin => k_is)
      (case babs => k_is)
      (case brange => k_is)
      (case bsorted => k_is)
      (case brepr => k_is)
    have CC : Fw.Cst mg := by
      refine' ⟨⟨_, (mg_of KX G ?cstates).trans ?dstates⟩, ⟨_, (mg_of KX G ?ckinds).trans ?dkinds⟩, ⟨_, (mg_of KX G ?creading).trans ?dreading⟩, ⟨_, (mg_of KX G ?cmoment).trans ?dmoment⟩, ⟨_, (mg_of KX G ?cnews).trans ?dnews⟩, ⟨_, (mg_of KX G ?clate).trans ?dlate⟩⟩
      (case cstates => k_is); (case dstates => rfl)
      (case ckinds => k_is); (case dkinds => rfl)
      (case creading => k_is); (case dreading => rfl)
      (case cmoment => k_is); (case dmoment => rfl)
      (case cnews => k_is); (case dnews => rfl)
      (case clate => k_is); (case dlate => rfl)
    have EE : Fw.ExErs KX PySem.Challenge.pw_forgetwhen_k37_whole_lateness_and_told_s mg := by
      unfold Fw.ExErs
      refine' ⟨_, _, _, _, _, _, ⟨Fw.at_mk (p1 := ⟨6, 17, 6, 21⟩) (p2 := ⟨6, 23, 6, 25⟩) (ps := Fw.posM) (z := "not a machine") (qn := "InvalidMachine.__init__") KX G ?xLM ?alM ?tlM ?saM ?gaM ?ggM ?naM ?iCM ?tCM ?kCM ?eCM ?eEM ?eSM ?yCM ?dCM ?opM ?suM ?tsM ?fLM ?fcM ?cLM ?vfM ?pfM ?eLM ?evM, mg_of KX G ?gM, Fw.at_mk (p1 := ⟨16, 17, 16, 21⟩) (p2 := ⟨16, 23, 16, 25⟩) (ps := Fw.posL) (z := "not lateness of kinds") (qn := "InvalidLateness.__init__") KX G ?xLL ?alL ?tlL ?saL ?gaL ?ggL ?naL ?iCL ?tCL ?kCL ?eCL ?eEL ?eSL ?yCL ?dCL ?opL ?suL ?tsL ?fLL ?fcL ?cLL ?vfL ?pfL ?eLL ?evL, mg_of KX G ?gL, Fw.at_mk (p1 := ⟨11, 17, 11, 21⟩) (p2 := ⟨11, 23, 11, 25⟩) (ps := Fw.posS) (z := "not a story") (qn := "InvalidStory.__init__") KX G ?xLS ?alS ?tlS ?saS ?gaS ?ggS ?naS ?iCS ?tCS ?kCS ?eCS ?eES ?eSS ?yCS ?dCS ?opS ?suS ?tsS ?fLS ?fcS ?cLS ?vfS ?pfS ?eLS ?evS, mg_of KX G ?gS⟩, ⟨Fw.exm_gen ?bM ?iM ?yM ?smm, Fw.exm_gen ?bM ?iM ?yM ?slm, Fw.exm_gen ?bL ?iL ?yL ?sll, Fw.exm_gen ?bM ?iM ?yM ?ssm, Fw.exm_gen ?bL ?iL ?yL ?ssl, Fw.exm_gen ?bS ?iS ?yS ?sss⟩⟩
      (case gM => k_is)
      (case gL => k_is)
      (case gS => k_is)
      (case xLM => k_is)
      (case alM => first | k_is | kernel_rfl | rfl)
      (case tlM => first | decide +kernel | k_is)
      (case saM => k_is)
      (case gaM => k_is)
      (case ggM => k_is)
      (case naM => k_is)
      (case iCM => k_is)
      (case tCM => k_is)
      (case kCM => k_is)
      (case eCM => k_is)
      (case eEM => k_is)
      (case eSM => k_is)
      (case yCM => k_is)
      (case dCM => k_is)
      (case opM => k_is)
      (case suM => k_is)
      (case tsM => first | decide +kernel | rfl)
      (case fLM => k_is)
      (case fcM => k_is)
      (case cLM => k_is)
      (case vfM => rfl)
      (case pfM => first | decide +kernel | rfl)
      (case eLM => k_is)
      (case evM => exact fun env => ⟨_, rfl⟩)
      (case xLL => k_is)
      (case alL => first | k_is | kernel_rfl | rfl)
      (case tlL => first | decide +kernel | k_is)
      (case saL => k_is)
      (case gaL => k_is)
      (case ggL => k_is)
      (case naL => k_is)
      (case iCL => k_is)
      (case tCL => k_is)
      (case kCL => k_is)
      (case eCL => k_is)
      (case eEL => k_is)
      (case eSL => k_is)
      (case yCL => k_is)
      (case dCL => k_is)
      (case opL => k_is)
      (case suL => k_is)
      (case tsL => first | decide +kernel | rfl)
      (case fLL => k_is)
      (case fcL => k_is)
      (case cLL => k_is)
      (case vfL => rfl)
      (case pfL => first | decide +kernel | rfl)
      (case eLL => k_is)
      (case evL => exact fun env => ⟨_, rfl⟩)
      (case xLS => k_is)
      (case alS => first | k_is | kernel_rfl | rfl)
      (case tlS => first | decide +kernel | k_is)
      (case saS => k_is)
      (case gaS => k_is)
      (case ggS => k_is)
      (case naS => k_is)
      (case iCS => k_is)
      (case tCS => k_is)
      (case kCS => k_is)
      (case eCS => k_is)
      (case eES => k_is)
      (case eSS => k_is)
      (case yCS => k_is)
      (case dCS => k_is)
      (case opS => k_is)
      (case suS => k_is)
      (case tsS => first | decide +kernel | rfl)
      (case fLS => k_is)
      (case fcS => k_is)
      (case cLS => k_is)
      (case vfS => rfl)
      (case pfS => first | decide +kernel | rfl)
      (case eLS => k_is)
      (case evS => exact fun env => ⟨_, rfl⟩)
      (case bM => first | k_is | rfl)
      (case iM => first | k_is | rfl)
      (case yM => first | k_is | rfl)
      (case bL => first | k_is | rfl)
      (case iL => first | k_is | rfl)
      (case yL => first | k_is | rfl)
      (case bS => first | k_is | rfl)
      (case iS => first | k_is | rfl)
      (case yS => first | k_is | rfl)
      (case smm => first | k_is | rfl)
      (case slm => first | k_is | rfl)
      (case sll => first | k_is | rfl)
      (case ssm => first | k_is | rfl)
      (case ssl => first | k_is | rfl)
      (case sss => first | k_is | rfl)
    obtain ⟨CM, CL, CS, iM, iL, iS, TT, XX⟩ := EE
    refine' Fw.fin_mk (x := ⟨⟨f_int, e_int⟩, ⟨f_num, e_num⟩, ⟨f_below, e_below⟩, ⟨f_seq, e_seq⟩, ⟨f_pair, e_pair⟩, ⟨f_row, e_row⟩, ⟨f_mach, e_mach⟩, ⟨f_news, e_news⟩, ⟨f_late, e_late⟩, ⟨f_kin, e_kin⟩, ⟨f_wof, e_wof⟩, ⟨f_win, e_win⟩, ⟨f_gap, e_gap⟩, ⟨f_told, e_told⟩, ⟨f_box, e_box⟩, ⟨f_take, e_take⟩, ⟨f_pick, e_pick⟩, ⟨f_map, e_map⟩, ⟨f_mkm, e_mkm⟩, ⟨f_ltn, e_ltn⟩, ⟨f_tale, e_tale⟩, ⟨f_lib, e_lib⟩, ⟨f_fault, e_fault⟩, ⟨f_spoil, e_spoil⟩, ⟨f_err, e_err⟩, CM, CL, CS, iM, iL, iS⟩) KX G hmg ?zfa ?zfl ?zfhc ?zflc ?zfe ?zfhd ?zfnT ?zfZ
    (case zfa => k_is)
    (case zfl => k_is)
    (case zfhc => k_is)
    (case zflc => k_is)
    (case zfe => rfl)
    (case zfhd => first | kernel_rfl | k_is)
    (case zfnT => first | kernel_rfl | k_is)
    (case zfZ => exact { W := ⟨BB, CC, ⟨D_int, D_num, D_below⟩, ⟨D_seq, D_pair⟩⟩, D := ⟨D_row, D_mach, D_news, D_late, D_kin, D_wof, D_win, D_gap⟩, T := TT, X := XX, told := D_told, R := ⟨D_take, D_pick, D_map⟩, box := D_box, mkm := D_mkm, ltn := D_ltn, tale := D_tale, lib := D_lib, fault := D_fault, spoil := D_spoil, err := D_err })
