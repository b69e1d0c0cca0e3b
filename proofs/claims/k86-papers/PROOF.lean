import PyProof.Rows.All
import Wide.All
import OpenK.AllK
import Wide.FinOn
import PyProof.EqAt
import PyProof.EqKinds
import PyProof.TupleCall
import PySem.Challenge.RW_formatory_k86_papers_there_and_back
import KE.KFromBytes
import KE.KExcSuper
import HandS.ExcSuper
import HandS.ExcInit
import HandS.ForMost
import HandS.ForExc
import HandS.IsInst
import HandS.Codes
import HandS.Conv
import HandS.ExcField
import HandS.Wide
import KE.IntTextLaws
namespace Toy
open PySem L2
def top (i : Nat) : Stmt := PySem.Challenge.pw_formatory_k86_papers_there_and_back.main.body.getD i (.Pass ⟨0, 0, 0, 0⟩)
end Toy
set_option Elab.async false
set_option linter.all false
set_option maxRecDepth 100000
set_option maxHeartbeats 4000000
/-! An own exception class over an own class over ValueError, whose __init__ says super().__init__(a text) and stores its one argument in a field: made, raised, its field read. -/
namespace PySem
namespace SupX_at
open PySem.W PySem.Calls PyProof.Rows PySem.HandSPX
abbrev sI : Stmt := L2.inClass (Toy.top 2) 0
abbrev iA : Arguments := L2.defArgs sI
abbrev iB : List Stmt := L2.defBody sI
abbrev iS : Scope := L2.defScope sI
/-- what the written part says of the class at C, its __init__ at fI, the cell of __class__ at cc, the code of __init__ at cda -/
structure SupTxt (P : Program) (K : Frag) (mg : Str → Option Value) (C fI cc cda : Addr) : Prop where
  cls : ∃ nm q N bs bm sn sub ab col dd k0 k1 k2 k3 k5, K.lookup C = some (excClassObj nm q C N bs bm true sn sub ab col dd k0 k1 k2 k3 k5 "ValueError.__new__") ∧ refsVE bm = true ∧ alongIn K "__init__" bm = some (some (.builtin "ValueError.__init__"))
  sa : findIn K (.ref C) "__setattr__" = some (some (.builtin "object.__setattr__"))
  ga : findIn K (.ref C) "__getattribute__" = some (some (.builtin "BaseException.__getattribute__"))
  gg : findIn K (.ref C) "__getattr__" = some none
  noN : findIn K (.ref C) "at" = some none
  iC : findIn K (.ref C) "__init__" = some (some (.ref fI))
  tC : typeIn K (.ref fI) = some (.type "function")
  kC : keepIn K (.ref C) = true
  exC : subIn K (.ref C) (.type "BaseException") = some true
  veC : subIn K (.ref C) (.type "ValueError") = some true
  ccC : mroIn K C (.ref C) = some true
  tyC : typeIn K (.ref C) = some (.type "type")
  hdC : hasDictIn K C = true
  te : exmOne K (.ref C) (.ref C) = some true
  opq : nsIn K cStatics "thirdparty.any" = some none
  sup : mg "super" = none
  top : (P.main.scope.names.lookup ("super" : Str)).isSome = false
  cell : ∃ cl cld csl, K.lookup cc = some ⟨cl, cld, .cell (some (.ref C)), csl⟩
  code : ∃ ccl cdd vs ccs file tf, K.lookup cda = some ⟨ccl, cdd, .fields vs, ccs⟩ ∧ vs[2]? = some (.str file tf) ∧ ((P.main.file : Str) == file) = true
  fn : ∃ (qual : Str) (oc : Value) (od : Option Addr) (kV doc pm : Value) (an : Option Addr) (ct : Value) (osl : Array (Option Value)),
    K.lookup fI = some ⟨oc, od, .func (ksFn "__init__" qual iA iB iS .none kV doc pm an (.ref cda) ct cc), osl⟩ ∧ codeIn K (.ref cda) qual = true
theorem one_size (v : Value) : [v].length ≤ sizeLine := by
  rw [sizeLine_eq]
  exact (by decide : 1 ≤ 16777216)
/-- what __init__ leaves of a fresh exception at x -/
structure InitEnd (h h' : Heap) (x C dx t1 : Addr) (v : Value) : Prop where
  keep : ∀ b o, b ≠ x → h.get? b = some o → h'.get? b = some o
  obj : h'.get? x = some { cls := .ref C, dict := some dx, data := .fields #[.ref t1, .none, .none, .none, .bool false, .none] }
  dbig : h.objs.size ≤ dx
  dne : dx ≠ x
  ns : h'.Ns1 dx (fun y => if y = "at" then some v else none)
/-- a made exception -/
structure OwnMade (h h' : Heap) (e C d : Addr) (v : Value) : Prop where
  keep : ∀ b o, h.get? b = some o → h'.get? b = some o
  new : h.objs.size ≤ e
  obj : ∃ oe vs, h'.get? e = some oe ∧ oe.cls = .ref C ∧ oe.dict = some d ∧ oe.data = .fields vs ∧ vs[1]? = some .none
  dbig : h.objs.size ≤ d
  dne : d ≠ e
  ns : h'.Ns1 d (fun y => if y = "at" then some v else none)
section
variable {prog : Program} {w : World} {A : Around} {E : Value → Shared → Prop} {R : Result → Shared → Prop} {s : Shared} {K : Frag} {mg : Str → Option Value} {C fI cc cda : Addr}
theorem ldC {M : Model} {s : Shared} {env : Env} {m : Str → Option Value} {x : Str} {pos : Pos} {v : Value} {Q : Value → Shared → Prop} {A : Around} {E : Value → Shared → Prop} (hn : s.heap.Ns env.locals m) (hv : m x = some v) (h : Q v s)
    (hk : env.scope.kind = .function := by rfl) (hl : env.kindOf x = some .local := by rfl) (hd : (x == ("__debug__" : Str)) = false := by decide) :
    wpAny M A (eval (.Name x pos) env) Q E s := wpAny_Name (wpAny_loadName_local hk hl hn hv h) hd
theorem bootSuper : bootBuiltins "super" = some (.type "super") := by first | boot_by_name | rfl | kernel_rfl
/-- the bound __init__ of the base, called -/
theorem call_mw {h : Heap} {g : Array GenState} {d : Drawn} {t : Nat} {os : OsState} {u e t0 : Addr} {rest : List Value} {Q : Value → Shared → Prop} {nm q : Str} {N : Addr} {bs bm : List Value} {hdct : Bool} {sn : List Str} {sub : List Value} {ab : Bool} {col : Option Bool} {dd : Option Addr} {k0 k1 k2 k3 k5 : Option Value}
    (hC : h.get? C = some (excClassObj nm q C N bs bm hdct sn sub ab col dd k0 k1 k2 k3 k5 "ValueError.__new__")) (he : h.get? e = some (excO C t0)) (hu : h.get? u = some (kxs_mw "ValueError.__init__" e)) (hrest : rest.length ≤ sizeLine)
    (hq : ∀ h' t1, (∀ b o, b ≠ e → h.get? b = some o → h'.get? b = some o) → h'.get? e = some (excO C t1) → Q .none ⟨h', g, d, t, os⟩) :
    wpAny (model prog w) A (call (.ref u) rest) Q E ⟨h, g, d, t, os⟩ := by
  refine wpAny_call (codeAny_of_tree ?_)
  show wpAny _ A.in1 (callAny (.ref u) ⟨rest, []⟩) _ _ _
  simp only [callAny]
  refine wpAny_bind (wpAny_load hu ?_)
  simp only [kxs_mw, show (Value.type "method-wrapper" == Value.type "method" || Value.type "method-wrapper" == Value.type "builtin_function_or_method" || Value.type "method-wrapper" == Value.type "method-wrapper") = true by decide, if_true]
  refine W.KFB.if_so (by decide) ?_
  refine wpAny_bind (check_bound_init F.excBase_ValueError.toExcCallFacts hC he rfl ?_)
  refine wpAny_bind (wpAny_pure (wpAny_pure ?_))
  refine ⟨plainId_quiet F.excBase_ValueError.init.plain _, codeAny_builtin F.excBase_ValueError.initEntry ?_⟩
  exact exc_init_tree (cls := .ref C) (t0 := t0) (dv := none) (c2 := .none) (c3 := .none) (b4 := .bool false) he hrest fun h' k e' _ => hq h' _ k e'
theorem clsIn_of {nm q : Str} {N : Addr} {bs bm : List Value} {hdct : Bool} {sn : List Str} {sub : List Value} {ab : Bool} {col : Option Bool} {dd : Option Addr} {k0 k1 k2 k3 k5 : Option Value} {newId : String}
    (hC : K.lookup C = some (excClassObj nm q C N bs bm hdct sn sub ab col dd k0 k1 k2 k3 k5 newId)) :
    clsIn K C = some { name := nm, bases := bs, mro := .ref C :: bm, ns := N, qualname := q, hasDict := hdct, slotNames := sn, subclasses := sub, abstract := ab, collection := col, hasDel := false } := by
  unfold clsIn
  rw [hC] <;> rfl
theorem sup_init (T : SupTxt prog K mg C fI cc cda) {x t0 : Addr} {v : Value} (X : K.In s.heap) (hlim : s.heap.NoLimit) (G : s.heap.Ns mainGlobals mg) (B : ∃ mb, s.heap.Ns builtinsNs mb ∧ ∀ x : Str, x ≠ "__name__" → mb x = bootBuiltins x)
    (hx : s.heap.get? x = some (excO C t0)) (hnx : K.lookup x = none) (hroom : A.depth < recursionLimit)
    (hq : ∀ h' tk dx t1, InitEnd s.heap h' x C dx t1 v → R (.ok (.ret .none)) { s with heap := h', toks := tk }) :
    codeAny (model prog w) A (.call (.ref fI) ⟨[.ref x, v], []⟩) R s := by
  obtain ⟨qual, oc, od, kV, doc, pm, an, ct, osl, ho, hcd⟩ := T.fn
  obtain ⟨nm, q, N, bs, bm, sn, sub, ab, col, dd, k0, k1, k2, k3, k5, hC, hbm, hal⟩ := T.cls
  obtain ⟨ccl, cdd, vs, ccs, file, tf, hcode, hvs, hfile⟩ := T.code
  obtain ⟨cl, cld, csl, hcell⟩ := T.cell
  have hcl := clsIn_of hC
  refine ks_codeAny_call_defAt (fd := ksFn "__init__" qual iA iB iS .none kV doc pm an (.ref cda) ct cc) (body := iB) (binds := [("self", .ref x), ("at", v)])
    hroom (X _ _ ho) rfl hlim (codeRec_of X hcd) rfl (BindsTo.of_eq (by first | rfl | with_unfolding_all rfl)) (show ∀ x ∈ iS.names, x.2 ≠ NameKind.cell from by decide +kernel) (locs (show (([("self", Value.ref x), ("at", v)] : List (Str × Value)).all fun y => decide (iS.names.lookup y.1 = some NameKind.local)) = true from by first | rfl | kernel_rfl)) (fun h₁ hns hk => ?_)
  have hn : h₁.Ns s.heap.objs.size (fun y => ([("self", Value.ref x), ("at", v)] : List (Str × Value)).reverse.lookup y) := hns
  have X₁ : K.In h₁ := X.keeps hk
  have hx₁ := hk _ _ hx
  have hz : s.heap.objs.size < h₁.objs.size := hn.lt
  have hxL : s.heap.objs.size ≠ x := Nat.ne_of_gt (Heap.lt_size hx)
  obtain ⟨mb, hB, hbl⟩ := B
  have hC₁ : h₁.get? C = _ := X₁ _ _ hC
  have hxC : x ≠ C := fun z => by rw [z, hC] at hnx; cases hnx
  -- super().__init__(msg)
  refine ks_wpAt_execs_cons ?_
  refine ks_wpAt_Expr_any ?_
  refine ks_wpAt_MethodCall ?_
  refine ks_wpAt_super_base (env := ksEnv qual iS s.heap.objs.size fI (.ref cda) cc) (by rfl) (by rfl) (by decide) rfl (X₁ _ _ ho) rfl rfl rfl (X₁ _ _ hcode) rfl hvs hfile T.top ?_
  refine ks_loadName_global (by rfl) (by rfl) (loadGlobal_builtin (env := ksEnv qual iS s.heap.objs.size fI (.ref cda) cc) (G.keeps hk) T.sup (hB.keeps hk) ((hbl _ (by decide +kernel)).trans bootSuper) ⟨rfl, ?_⟩)
  refine wpAny_loadName_free (by rfl) (by rfl) (by rfl) ⟨_, X₁ _ _ hcell, rfl⟩ ?_
  refine wpAny_loadName_local (v := .ref x) (by rfl) (by rfl) hn (by first | rfl | with_unfolding_all rfl | kernel_rfl) ?_
  refine ks_wpAny_isType_cls hC₁ rfl ⟨rfl, ?_⟩
  refine ks_wpAny_call_super hC₁ rfl hx₁ rfl (fun c e => nomatch e) (looks_mroIn X₁ T.ccC) (fun h₂ hso k₂ => ?_)
  have X₂ : K.In h₂ := X₁.keeps k₂
  have hx₂ := k₂ _ _ hx₁
  have hI : Looks (model prog w) h₂ (isInstance (.ref x) (.type "ValueError")) true :=
    (InstAt.type (od := none) ⟨hx₂, rfl, rfl, trivial⟩).andThen (looks_subIn X₂ T.veC)
  refine kxs_getMethod kxs_ValueError hso (looks_opaque X₂ T.opq) (l₀ := .ref C :: bm) (fun A Q E s k q => wpAny_bind ((looks_clsIn X₂ hcl) A _ E s k (wpAny_pure q))) (PySem.ESX.drop_own C bm) X₂ hal hI hxC (by decide) ?_
  have hz2 : h₁.objs.size < h₂.objs.size := Heap.lt_size hso
  have k₃ : ∀ b o, h₂.get? b = some o → (h₂.push (kxs_mw "ValueError.__init__" x)).get? b = some o := fun b o e => Heap.get?_push_of_some _ e
  have hu : (h₂.push (kxs_mw "ValueError.__init__" x)).get? h₂.objs.size = some (kxs_mw "ValueError.__init__" x) := Heap.get?_push_at rfl rfl
  refine kxs_callWith (i := "ValueError.__init__") (x := x) (by rfl) (evalArgs_plain ?_)
  refine Calls.spliced_cons (Calls.Constant_str (k := 0) (pos := ⟨0, 0, 0, 0⟩) (Calls.spliced_nil ?_))
  refine ⟨hu, ?_⟩
  refine call_mw (k₃ _ _ (k₂ _ _ hC₁)) (k₃ _ _ hx₂) hu (one_size _) (fun h₄ t1 k₄ hx₄ => ?_)
  -- self.at = at
  have k : ∀ b o, b ≠ x → h₁.get? b = some o → h₄.get? b = some o := fun b o hb e => k₄ b o hb (k₃ _ _ (k₂ _ _ e))
  have hn₄ : h₄.Ns s.heap.objs.size (fun y => ([("self", Value.ref x), ("at", v)] : List (Str × Value)).reverse.lookup y) := by
    obtain ⟨o, es, ep, e, r⟩ := hn
    exact ⟨o, es, ep, k _ _ hxL e, r⟩
  have X₄ : K.In h₄ := fun a o e => k a o (fun z => by rw [z, hnx] at e; cases e) (X₁ a o e)
  refine wpAt_of_wpAny ?_
  refine wpAny_execs_cons (plainObj_wpAny_Assign_Attribute ?_)
  refine ldC (v := v) (env := ksEnv qual iS s.heap.objs.size fI (.ref cda) cc) hn₄ (by first | rfl | with_unfolding_all rfl | kernel_rfl) (ldC (v := .ref x) (env := ksEnv qual iS s.heap.objs.size fI (.ref cda) cc) hn₄ (by first | rfl | with_unfolding_all rfl | kernel_rfl) ?_)
  refine set_plain X₄ (ox := excO C t1) (od := none) ⟨hx₄, rfl, rfl, trivial⟩ T.sa ?_
  refine exc_osa X₄ hx₄ hcl (show refsVE (.ref C :: bm) = true from hbm) rfl T.noN (fun h₅ tk₅ dx k₅ dn dne hx₅ hn₅ => ?_)
  have zz : s.heap.objs.size ≤ h₄.objs.size := Nat.le_of_lt hn₄.lt
  exact wpAny_execs_nil (hq h₅ tk₅ dx t1 ⟨fun b o hb e => k₅ b o hb (k b o hb (hk b o e)), hx₅, Nat.le_trans zz dn, dne, hn₅⟩)
end
end SupX_at
end PySem
namespace PySem
namespace SupX_at
open PySem.W PySem.Calls PyProof.Rows PySem.HandSPX
section
variable {prog : Program} {w : World} {A : Around} {E : Value → Shared → Prop} {R : Result → Shared → Prop} {s : Shared} {K : Frag} {mg : Str → Option Value} {C fI cc cda : Addr}
theorem sup_made (T : SupTxt prog K mg C fI cc cda) {v : Value} (X : K.In s.heap) (hlim : s.heap.NoLimit) (G : s.heap.Ns mainGlobals mg) (B : ∃ mb, s.heap.Ns builtinsNs mb ∧ ∀ x : Str, x ≠ "__name__" → mb x = bootBuiltins x) (hroom : A.depth + 1 < recursionLimit)
    (hq : ∀ h' tk e d, OwnMade s.heap h' e C d v → R (.ok (.ret (.ref e))) { s with heap := h', toks := tk }) :
    codeAny (model prog w) A (.call (.ref C) ⟨[v], []⟩) R s := by
  obtain ⟨nm, q, N, bs, bm, sn, sub, ab, col, dd, k0, k1, k2, k3, k5, hC, hbm, hal⟩ := T.cls
  obtain ⟨hp, g, dr, tk, os⟩ := s
  have k : ∀ b o, hp.get? b = some o → ((hp.push (kdv_tup [v])).push (excO C hp.objs.size)).get? b = some o := fun b o e => Heap.get?_push_of_some _ (Heap.get?_push_of_some _ e)
  have hget : ((hp.push (kdv_tup [v])).push (excO C hp.objs.size)).get? (hp.objs.size + 1) = some (excO C hp.objs.size) := by heap_get
  have hnx : K.lookup (hp.objs.size + 1) = none := by
    cases e : K.lookup (hp.objs.size + 1) with
    | none => rfl
    | some o =>
      have z : hp.get? (hp.objs.size + 1) = some o := X _ _ e
      exact absurd (Nat.lt_of_succ_lt (Heap.lt_size z)) (Nat.lt_irrefl _)
  refine call_own F.excBase_ValueError (fun X => refsVE_contains X bm hbm) (X _ _ hC) (looks_findIn X T.iC) (fun self => bind_fn X self T.tC) (one_size v) ?_
  refine sup_init (s := ⟨(hp.push (kdv_tup [v])).push (excO C hp.objs.size), g, dr, tk, os⟩) T (X.keeps k) (hlim.keeps k) (G.keeps k) (let ⟨mb, b1, b2⟩ := B; ⟨mb, b1.keeps k, b2⟩) hget hnx ?_ fun h' tk' dx t1 ⟨k', hx, dn, dne, hns⟩ => ?_
  · show A.depth + 1 < recursionLimit
    exact hroom
  · have old : ∀ b o, hp.get? b = some o → h'.get? b = some o := fun b o e => k' b o (Nat.ne_of_lt (Nat.lt_succ_of_lt (Heap.lt_size e))) (k b o e)
    have z : hp.objs.size + 1 + 1 ≤ dx := by
      first
        | (simpa only [Heap.size_push] using dn)
        | exact dn
        | (have q := dn; rw [Heap.size_push, Heap.size_push] at q; exact q)
    exact ⟨rfl, hq h' tk' (hp.objs.size + 1) dx ⟨old, Nat.le_succ _, ⟨_, _, hx, rfl, rfl, rfl, rfl⟩, Nat.le_trans (Nat.le_trans (Nat.le_succ _) (Nat.le_succ _)) z, dne, hns⟩⟩
end
end SupX_at
end PySem
theorem PySem.SupX_at.SupTxt.xf {P : PySem.Program} {K : PySem.W.Frag} {mg : PySem.Str → Option PySem.Value} {C fI cc cda : PySem.Addr} (T : PySem.SupX_at.SupTxt P K mg C fI cc cda) : L2.XfC K C := ⟨T.ga, T.gg, T.exC, T.hdC⟩
namespace L2
namespace Sup_at
open PySem PySem.Spec PyProof.Rows
theorem relO_one {v : V} {v' : Value} (r : RelV v v') (f : Str) : RelO (List.lookup f [(("at" : Str), v)]) (if f = "at" then some v' else none) := by
  by_cases hw : f = "at"
  · subst hw
    rw [if_pos rfl]
    have q : List.lookup ("at" : Str) [(("at" : Str), v)] = some v := by simp [List.lookup]
    rw [q]
    exact r
  · rw [if_neg hw]
    have qw : (f == ("at" : Str)) = false := by simpa using hw
    have q2 : List.lookup f [(("at" : Str), v)] = none := by simp [List.lookup, qw]
    rw [q2]
    trivial
section
variable {X : Cx} {C fI cc cda : Addr}
/-- C(e) -/
def tMk (C : Addr) (ta : TA) : St → Hp → XK → Prop := fun σ H Q => ta σ H fun vs H1 => ∃ v, vs = [v] ∧ ∀ d, H1 d = none → Q (.ref C) (some d) (upd H1 d (.xd [(("at" : Str), v)]))
theorem pmk {a : Expr} {ta : TA} {x : Str} {p pos : Pos} {k : Nat} (T : PySem.SupX_at.SupTxt X.prog X.K X.mg C fI cc cda) (hm : X.mg x = some (.ref C)) (hr : Room k X.A) (ha : PA X [a] ta) (hg : Gl X x := by rfl)
    (hd : (x == ("__debug__" : Str)) = false := by decide)
    (he : starEach (a :: []) X.env = (false, eval a X.env) :: starEach [] X.env := by rfl) (hpl : (backTo pos (starEach [] X.env)).any (·.1) = false := by rfl) :
    PMk X (.Call (.Name x p) [a] [] pos) (tMk C ta) := by
  intro pins s σ H Q I h
  refine wpAny_Call_Name_kw (ld_glob I hg hm ?_ hd)
  refine PySem.W.callWith_K (h₀ := X.base) I.ok.mod.kin T.kC (thn (ha.run pos pins s σ H _ I h) fun us s1 hh => ?_) he hpl
  obtain ⟨vs, H1, I1, r1, v, ev, q1⟩ := hh
  subst ev
  refine ⟨I1.kIn, ?_⟩
  cases r1 with
  | cons rv rn =>
    rename_i v' us'
    cases rn
    show wpAny _ _ (call (.ref C) [v']) _ _ _
    have hlim := I1.nolimit
    have hG := I1.ok.mod.glob.keeps I1.bk
    have hB : ∃ mb, s1.heap.Ns builtinsNs mb ∧ ∀ x : Str, x ≠ "__name__" → mb x = bootBuiltins x := let ⟨mb, b1, b2⟩ := I1.ok.mod.blt; ⟨mb, b1.keeps I1.bk, b2⟩
    obtain ⟨hp, g, dr, tk, os⟩ := s1
    refine wpAny_call (PySem.SupX_at.sup_made T I1.kIn hlim hG hB (by have := hr.dp; omega) fun h' tk' e d M => ?_)
    show MkP X pins σ Q (.ref e) ⟨h', g, dr, tk', os⟩
    obtain ⟨oe, fv, hoe, hc, hd, hdat, h1⟩ := M.obj
    have hns := M.ns
    obtain ⟨G', g1, g2⟩ := restrict h' fun b => decide (b ≠ e)
    have gk : ∀ b, b ≠ e → G'.get? b = h'.get? b := fun b hb => g1 b (decide_eq_true hb)
    have ge : G'.get? e = none := g2 e (by simp)
    have old : ∀ b o, hp.get? b = some o → G'.get? b = some o := fun b o q => (gk b (Nat.ne_of_lt (Nat.lt_of_lt_of_le (Heap.lt_size q) M.new))).trans (M.keep b o q)
    have ob : ObjOk X.prog X.w (upd H1 d (.xd [(("at" : Str), v)])) G' d (.xd [(("at" : Str), v)]) :=
      ⟨_, hns.at (fun o q => (gk d M.dne).trans q), fun f => relO_one rv f⟩
    have J : Inv X pins σ (upd H1 d (.xd [(("at" : Str), v)])) ⟨G', g, dr, tk', os⟩ := I1.laid (t' := tk') old M.dbig ob
    refine ⟨e, oe, fv, ⟨G', g, dr, tk', os⟩, _, .ref C, some d, rfl, J, fun b o q => ?_, ge, hoe, ⟨hc, hd⟩, hdat, h1, ?_, rfl, I1.bare, raises_own T.exC T.tyC, q1 d (I1.hok.fresh M.dbig)⟩
    · by_cases hb : b = e
      · have q' : G'.get? b = some o := q
        rw [hb, ge] at q'; cases q'
      · exact (gk b hb).symm.trans q
    · rw [upd_ne (Ne.symm M.dne)]
      exact I1.hok.fresh M.new
/-- raise C(e) -/
def tRaise (C : Addr) (W : WX) (ta : TA) : TS := fun _ σ H => tMk C ta σ H fun cls d H' => W cls d σ H'
theorem ps_raise {a : Expr} {ta : TA} {W : WX} {x : Str} {p pos pos2 : Pos} {k : Nat} (hc : X.calm = true) (T : PySem.SupX_at.SupTxt X.prog X.K X.mg C fI cc cda) (hm : X.mg x = some (.ref C)) (hr : Room k X.A) (tk : Takes X W) (ha : PA X [a] ta) (hg : Gl X x := by rfl)
    (hd : (x == ("__debug__" : Str)) = false := by decide)
    (he : starEach (a :: []) X.env = (false, eval a X.env) :: starEach [] X.env := by rfl) (hpl : (backTo pos (starEach [] X.env)).any (·.1) = false := by rfl) :
    PS X (.Raise (some (.Call (.Name x p) [a] [] pos)) none pos2) (tRaise C W ta) := L2.ps_raise hc tk (pmk T hm hr ha hg hd he hpl)
end
end Sup_at
end L2

set_option Elab.async false
set_option linter.all false
set_option maxRecDepth 100000
set_option maxHeartbeats 4000000
namespace Toy
open PySem TL PySem.NumText
/-! ### the papers, their texts (lists of codes), the reader -/
inductive Paper where | non | int (i : Int) | str (s : List Nat) | tup (l : List Paper)
mutual
def wr : Paper → List Nat
  | .non => [110, 111, 110, 101]
  | .int i => if i < 0 then 45 :: numL i.natAbs else numL i.natAbs
  | .str s => 34 :: (s ++ [34])
  | .tup l => 40 :: (wrs l ++ [41])
def wrs : List Paper → List Nat
  | [] => []
  | p :: r => wr p ++ wrt r
def wrt : List Paper → List Nat
  | [] => []
  | p :: r => 32 :: (wr p ++ wrt r)
end
inductive Res (α : Type) where | ok (a : α) (n : Nat) | bad (n : Nat)
def Res.shift {α : Type} (o : Nat) : Res α → Res α
  | .ok a n => .ok a (o + n)
  | .bad n => .bad (o + n)
def dig (c : Nat) : Bool := decide (48 ≤ c) && decide (c ≤ 57)
/-- up to 20 digits ahead -/
def digs (s : List Nat) : List Nat := (s.take 20).takeWhile dig
def rdNum (s : List Nat) : Res Paper :=
  if s.head? = some 45 then
    (if s.tail.head? = some 48 then .bad 1
     else if digs s.tail = [] then .bad 1 else .ok (.int (-((digitsVal (digs s.tail) : Nat) : Int))) (1 + (digs s.tail).length))
  else if s.head? = some 48 then .ok (.int 0) 1
  else if digs s = [] then .bad 0 else .ok (.int ((digitsVal (digs s) : Nat) : Int)) (digs s).length
def inn (t : List Nat) : List Nat := t.takeWhile (fun c => decide (c ≠ 34))
/-- behind the opening mark -/
def rdStr (t : List Nat) : Res Paper := if (inn t).length = t.length then .bad (1 + t.length) else .ok (.str (inn t)) ((inn t).length + 2)
/-- behind the n -/
def rdNone (t : List Nat) : Res Paper :=
  if t[0]? ≠ some 111 then .bad 1 else if t[1]? ≠ some 110 then .bad 2 else if t[2]? ≠ some 101 then .bad 3 else .ok .non 4
def off (first : Bool) : Nat := if first then 0 else 1
def loop (rdp : List Nat → Res Paper) (first : Bool) (s : List Nat) (acc : List Paper) : Res (List Paper) :=
  if s.head? = some 41 then .ok acc 1
  else if first = false ∧ s.head? ≠ some 32 then .bad 0
  else match rdp (s.drop (off first)) with
    | .bad n => .bad (off first + n)
    | .ok p n =>
      if h : 0 < n ∧ off first + n ≤ s.length then (loop rdp false (s.drop (off first + n)) (acc ++ [p])).shift (off first + n)
      else .bad 0
termination_by s.length
decreasing_by
  simp only [List.length_drop]
  omega
theorem loop_end {rdp : List Nat → Res Paper} {first : Bool} {s : List Nat} {acc : List Paper} (h : s.head? = some 41) : loop rdp first s acc = .ok acc 1 := by
  rw [loop, if_pos h]
theorem loop_gap {rdp : List Nat → Res Paper} {s : List Nat} {acc : List Paper} (h : s.head? ≠ some 41) (h2 : s.head? ≠ some 32) : loop rdp false s acc = .bad 0 := by
  rw [loop, if_neg h, if_pos ⟨rfl, h2⟩]
theorem loop_bad {rdp : List Nat → Res Paper} {first : Bool} {s : List Nat} {acc : List Paper} {n : Nat} (h : s.head? ≠ some 41) (h2 : first = true ∨ s.head? = some 32) (e : rdp (s.drop (off first)) = .bad n) :
    loop rdp first s acc = .bad (off first + n) := by
  rw [loop, if_neg h, if_neg (by rintro ⟨a, b⟩; rcases h2 with z | z; rw [a] at z; cases z; exact b z)]
  simp only [e]
theorem loop_ok {rdp : List Nat → Res Paper} {first : Bool} {s : List Nat} {acc : List Paper} {p : Paper} {n : Nat} (h : s.head? ≠ some 41) (h2 : first = true ∨ s.head? = some 32) (e : rdp (s.drop (off first)) = .ok p n)
    (hn : 0 < n ∧ off first + n ≤ s.length) : loop rdp first s acc = (loop rdp false (s.drop (off first + n)) (acc ++ [p])).shift (off first + n) := by
  rw [loop, if_neg h, if_neg (by rintro ⟨a, b⟩; rcases h2 with z | z; rw [a] at z; cases z; exact b z)]
  simp only [e]
  rw [dif_pos hn]
theorem loop_junk {rdp : List Nat → Res Paper} {first : Bool} {s : List Nat} {acc : List Paper} {p : Paper} {n : Nat} (h : s.head? ≠ some 41) (h2 : first = true ∨ s.head? = some 32) (e : rdp (s.drop (off first)) = .ok p n)
    (hn : ¬ (0 < n ∧ off first + n ≤ s.length)) : loop rdp first s acc = .bad 0 := by
  rw [loop, if_neg h, if_neg (by rintro ⟨a, b⟩; rcases h2 with z | z; rw [a] at z; cases z; exact b z)]
  simp only [e]
  rw [dif_neg hn]
def rd : Nat → List Nat → Res Paper
  | 0, s => if s.head? = some 34 then rdStr s.tail else if s.head? = some 110 then rdNone s.tail else if s.head? = some 40 then .bad 0 else rdNum s
  | k + 1, s => if s.head? = some 34 then rdStr s.tail else if s.head? = some 110 then rdNone s.tail else if s.head? = some 40 then
      (match loop (rd k) true s.tail [] with | .ok l n => .ok (.tup l) (1 + n) | .bad n => .bad (1 + n)) else rdNum s
theorem rd_str (k : Nat) (t : List Nat) : rd k (34 :: t) = rdStr t := by cases k <;> (unfold rd; rw [List.head?_cons, if_pos rfl, List.tail_cons])
theorem rd_none (k : Nat) (t : List Nat) : rd k (110 :: t) = rdNone t := by cases k <;> (unfold rd; rw [List.head?_cons, if_neg (by simp), if_pos rfl, List.tail_cons])
theorem rd_zero (t : List Nat) : rd 0 (40 :: t) = .bad 0 := by unfold rd; rw [List.head?_cons, if_neg (by simp), if_neg (by simp), if_pos rfl]
theorem rd_tup (k : Nat) (t : List Nat) : rd (k + 1) (40 :: t) = (match loop (rd k) true t [] with | .ok l n => .ok (.tup l) (1 + n) | .bad n => .bad (1 + n)) := by
  conv => lhs; unfold rd
  rw [List.head?_cons, if_neg (by simp), if_neg (by simp), if_pos rfl, List.tail_cons]
theorem rd_num (k : Nat) (s : List Nat) (h1 : s.head? ≠ some 34) (h2 : s.head? ≠ some 110) (h3 : s.head? ≠ some 40) : rd k s = rdNum s := by
  cases k <;> (unfold rd; rw [if_neg h1, if_neg h2, if_neg h3])
theorem rd_cases (s : List Nat) : (∃ t, s = 34 :: t) ∨ (∃ t, s = 110 :: t) ∨ (∃ t, s = 40 :: t) ∨ (s.head? ≠ some 34 ∧ s.head? ≠ some 110 ∧ s.head? ≠ some 40) := by
  cases s with
  | nil => exact .inr (.inr (.inr ⟨by simp, by simp, by simp⟩))
  | cons c t =>
    by_cases h1 : c = 34
    · exact .inl ⟨t, by rw [h1]⟩
    by_cases h2 : c = 110
    · exact .inr (.inl ⟨t, by rw [h2]⟩)
    by_cases h3 : c = 40
    · exact .inr (.inr (.inl ⟨t, by rw [h3]⟩))
    · exact .inr (.inr (.inr ⟨by simpa using h1, by simpa using h2, by simpa using h3⟩))
theorem digs_len (s : List Nat) : (digs s).length ≤ s.length := by
  unfold digs
  exact Nat.le_trans (List.takeWhile_sublist _).length_le (by rw [List.length_take]; omega)
theorem digs_20 (s : List Nat) : (digs s).length ≤ 20 := by
  unfold digs
  exact Nat.le_trans (List.takeWhile_sublist _).length_le (by rw [List.length_take]; omega)
theorem inn_len (t : List Nat) : (inn t).length ≤ t.length := (List.takeWhile_sublist _).length_le
theorem rdNum_size {s : List Nat} {p : Paper} {n : Nat} (h : rdNum s = .ok p n) : 0 < n ∧ n ≤ s.length := by
  unfold rdNum at h
  split at h
  · rename_i h0
    have hs : 0 < s.length := by cases s with | nil => simp at h0 | cons a b => simp
    have ht : s.tail.length = s.length - 1 := by simp
    have z := digs_len s.tail
    split at h
    · cases h
    · split at h
      · cases h
      · injection h with _ h; omega
  · split at h
    · rename_i h0
      have hs : 0 < s.length := by cases s with | nil => simp at h0 | cons a b => simp
      injection h with _ h; omega
    · split at h
      · cases h
      · rename_i h0
        have z := digs_len s
        have y : 0 < (digs s).length := List.length_pos_iff.mpr h0
        injection h with _ h; omega
theorem rdStr_size {s : List Nat} {p : Paper} {n : Nat} (h : rdStr s = .ok p n) : n ≤ 1 + s.length ∧ 0 < n := by
  unfold rdStr at h
  split at h
  · cases h
  · rename_i h0
    have z := inn_len s
    injection h with _ h; omega
theorem rdNone_size {s : List Nat} {p : Paper} {n : Nat} (h : rdNone s = .ok p n) : n = 4 ∧ 3 ≤ s.length := by
  unfold rdNone at h
  by_cases h1 : s[0]? ≠ some 111
  · rw [if_pos h1] at h; cases h
  rw [if_neg h1] at h
  by_cases h2 : s[1]? ≠ some 110
  · rw [if_pos h2] at h; cases h
  rw [if_neg h2] at h
  by_cases h3 : s[2]? ≠ some 101
  · rw [if_pos h3] at h; cases h
  rw [if_neg h3] at h
  have h3' : s[2]? = some 101 := by simpa using h3
  have := (List.getElem?_eq_some_iff.mp h3').1
  injection h with _ h; omega
theorem loop_size {rdp : List Nat → Res Paper} : ∀ (m : Nat) (first : Bool) (s : List Nat) (acc l : List Paper) (n : Nat), s.length ≤ m → loop rdp first s acc = .ok l n → 0 < n ∧ n ≤ s.length := by
  intro m
  induction m with
  | zero =>
    intro first s acc l n hm h
    have hs : s = [] := by cases s with | nil => rfl | cons a b => simp at hm
    subst hs
    by_cases h2 : first = true ∨ ([] : List Nat).head? = some 32
    · cases e : rdp (([] : List Nat).drop (off first)) with
      | bad j => rw [loop_bad (by simp) h2 e] at h; cases h
      | ok p j => rw [loop_junk (by simp) h2 e (by simp; omega)] at h; cases h
    · have hf : first = false := by cases first with | true => exact absurd (.inl rfl) h2 | false => rfl
      subst hf
      rw [loop_gap (by simp) (by simp)] at h; cases h
  | succ m ih =>
    intro first s acc l n hm h
    by_cases h1 : s.head? = some 41
    · rw [loop_end h1] at h
      have hs : 0 < s.length := by cases s with | nil => simp at h1 | cons a b => simp
      injection h with _ h; omega
    by_cases h2 : first = true ∨ s.head? = some 32
    · cases e : rdp (s.drop (off first)) with
      | bad j => rw [loop_bad h1 h2 e] at h; cases h
      | ok p j =>
        by_cases hn : 0 < j ∧ off first + j ≤ s.length
        · rw [loop_ok h1 h2 e hn] at h
          cases e2 : loop rdp false (s.drop (off first + j)) (acc ++ [p]) with
          | bad i => rw [e2] at h; cases h
          | ok l' i =>
            rw [e2] at h
            have z := ih _ _ _ _ _ (by rw [List.length_drop]; omega) e2
            rw [List.length_drop] at z
            unfold Res.shift at h
            injection h with _ h; omega
        · rw [loop_junk h1 h2 e hn] at h; cases h
    · have hf : first = false := by cases first with | true => exact absurd (.inl rfl) h2 | false => rfl
      subst hf
      rw [loop_gap h1 (fun z => h2 (.inr z))] at h; cases h
theorem rd_size (k : Nat) (s : List Nat) {p : Paper} {n : Nat} (h : rd k s = .ok p n) : 0 < n ∧ n ≤ s.length := by
  rcases rd_cases s with ⟨t, rfl⟩ | ⟨t, rfl⟩ | ⟨t, rfl⟩ | ⟨h1, h2, h3⟩
  · rw [rd_str] at h
    have z := rdStr_size h
    simp only [List.length_cons]; omega
  · rw [rd_none] at h
    have z := rdNone_size h
    simp only [List.length_cons]; omega
  · cases k with
    | zero => rw [rd_zero] at h; cases h
    | succ k =>
      rw [rd_tup] at h
      cases hj : loop (rd k) true t [] with
      | bad j => rw [hj] at h; cases h
      | ok l j =>
        rw [hj] at h
        have z := loop_size _ _ _ _ _ _ (Nat.le_refl _) hj
        injection h with _ h
        simp only [List.length_cons]; omega
  · rw [rd_num k s h1 h2 h3] at h
    exact rdNum_size h
/-! ### good papers: nested at most so deep -/
mutual
def good : Nat → Paper → Prop
  | _, .non => True
  | _, .int i => i.natAbs < 10 ^ 20
  | _, .str s => 34 ∉ s
  | 0, .tup _ => False
  | k + 1, .tup l => goods k l
def goods : Nat → List Paper → Prop
  | _, [] => True
  | k, p :: r => good k p ∧ goods k r
end
def Fol (rest : List Nat) : Prop := ∀ c, rest.head? = some c → c = 32 ∨ c = 41
theorem head_app {a b : List Nat} (h : a ≠ []) : (a ++ b).head? = a.head? := by
  cases a with
  | nil => exact absurd rfl h
  | cons x r => rfl
theorem numL_head : ∀ (n : Nat), 0 < n → ∀ c, (numL n).head? = some c → c ≠ 48 := by
  intro n
  induction n using Nat.strongRecOn with
  | _ n ih =>
    intro h0 c hc
    by_cases h : n < 10
    · rw [numL_lt h] at hc
      simp at hc; omega
    · rw [numL_step (by omega)] at hc
      have hne := numL_ne (n / 10)
      rw [head_app hne] at hc
      exact ih (n / 10) (by omega) (by omega) c hc
theorem dig_of {c : Nat} (h : 48 ≤ c ∧ c ≤ 57) : dig c = true := by simp [dig, h]
theorem numL_dig (n : Nat) : ∀ c ∈ numL n, dig c = true := fun c hc => dig_of (numL_digits n c hc)
theorem fol_nodig {rest : List Nat} (h : Fol rest) : ∀ c, rest.head? = some c → dig c = false := fun c hc => by
  rcases h c hc with rfl | rfl <;> decide
theorem takeWhile_app {p : Nat → Bool} : ∀ {a b : List Nat}, (∀ c ∈ a, p c = true) → (∀ c, b.head? = some c → p c = false) → (a ++ b).takeWhile p = a
  | [], b, _, h => by
    cases b with
    | nil => rfl
    | cons c r => simp [List.takeWhile_cons, h c rfl]
  | x :: a, b, ha, h => by
    rw [List.cons_append, List.takeWhile_cons, ha x List.mem_cons_self, if_pos rfl, takeWhile_app (fun c hc => ha c (List.mem_cons_of_mem _ hc)) h]
theorem head_take {l : List Nat} {n : Nat} {c : Nat} (h : (l.take n).head? = some c) : l.head? = some c := by
  cases l with
  | nil => simp at h
  | cons a r => cases n with | zero => simp at h | succ n => simpa using h
theorem digs_app {a rest : List Nat} (hl : a.length ≤ 20) (ha : ∀ c ∈ a, dig c = true) (hr : ∀ c, rest.head? = some c → dig c = false) : digs (a ++ rest) = a := by
  unfold digs
  rw [List.take_append, List.take_of_length_le hl]
  exact takeWhile_app ha fun c hc => hr c (head_take hc)
theorem rdNum_nat {n : Nat} {rest : List Nat} (hn : n < 10 ^ 20) (hr : Fol rest) : rdNum (numL n ++ rest) = .ok (.int (n : Int)) (numL n).length := by
  have hne := numL_ne n
  obtain ⟨c, r, e⟩ : ∃ c r, numL n = c :: r := by cases h : numL n with | nil => exact absurd h hne | cons c r => exact ⟨c, r, rfl⟩
  have hc : 48 ≤ c ∧ c ≤ 57 := numL_digits n c (by rw [e]; exact List.mem_cons_self)
  have hl : (numL n).length ≤ 20 := numL_len (by decide) hn
  have hh : (numL n ++ rest).head? = some c := by rw [e]; rfl
  unfold rdNum
  rw [hh, if_neg (by simp; omega)]
  by_cases h0 : n = 0
  · subst h0
    have e0 : numL 0 = [48] := numL_lt (by decide)
    rw [e0] at e ⊢
    injection e with e _
    subst e
    rw [if_pos rfl]; rfl
  · have h48 := numL_head n (by omega) c (by rw [e]; rfl)
    rw [if_neg (by simp; exact h48), digs_app hl (numL_dig n) (fol_nodig hr), if_neg hne, numL_val]
theorem rdNum_neg {n : Nat} {rest : List Nat} (h0 : 0 < n) (hn : n < 10 ^ 20) (hr : Fol rest) : rdNum (45 :: (numL n ++ rest)) = .ok (.int (-(n : Int))) (1 + (numL n).length) := by
  have hne := numL_ne n
  obtain ⟨c, r, e⟩ : ∃ c r, numL n = c :: r := by cases h : numL n with | nil => exact absurd h hne | cons c r => exact ⟨c, r, rfl⟩
  have hl : (numL n).length ≤ 20 := numL_len (by decide) hn
  have h48 := numL_head n h0 c (by rw [e]; rfl)
  have hh : (numL n ++ rest).head? = some c := by rw [e]; rfl
  unfold rdNum
  rw [show (45 :: (numL n ++ rest)).head? = some 45 from rfl, if_pos rfl, List.tail_cons, hh, if_neg (by simp; exact h48), digs_app hl (numL_dig n) (fol_nodig hr), if_neg hne, numL_val]
theorem inn_app {s rest : List Nat} (h : 34 ∉ s) : inn (s ++ 34 :: rest) = s :=
  takeWhile_app (fun c hc => decide_eq_true (fun z => h (z ▸ hc))) (fun c hc => by simp at hc; subst hc; decide)
theorem wr_ne (p : Paper) : wr p ≠ [] := by
  cases p with
  | non => simp [wr]
  | int i => unfold wr; split; simp; exact numL_ne _
  | str s => simp [wr]
  | tup l => simp [wr]
theorem wr_head (p : Paper) : ∀ c, (wr p).head? = some c → c ≠ 41 ∧ c ≠ 32 := by
  intro c hc
  cases p with
  | non => simp [wr] at hc; omega
  | int i =>
    unfold wr at hc
    split at hc
    · simp at hc; omega
    · have := numL_digits i.natAbs c (List.mem_of_mem_head? hc); omega
  | str s => simp [wr] at hc; omega
  | tup l => simp [wr] at hc; omega
theorem fol_wrt (l : List Paper) (rest : List Nat) : Fol (wrt l ++ 41 :: rest) := by
  intro c hc
  cases l with
  | nil => simp [wrt] at hc; omega
  | cons p r => simp [wrt] at hc; omega
mutual
theorem rd_wr : ∀ (p : Paper) (k : Nat) (rest : List Nat), good k p → Fol rest → rd k (wr p ++ rest) = .ok p (wr p).length
  | .non, k, rest, _, _ => by
    show rd k (110 :: (111 :: 110 :: 101 :: rest)) = _
    rw [rd_none]
    unfold rdNone
    rw [if_neg (by simp), if_neg (by simp), if_neg (by simp)]
    simp [wr]
  | .int i, k, rest, hg, hr => by
    have hg' : i.natAbs < 10 ^ 20 := by unfold good at hg; exact hg
    unfold wr
    by_cases h : i < 0
    · rw [if_pos h]
      show rd k (45 :: (numL i.natAbs ++ rest)) = _
      rw [rd_num k _ (by simp) (by simp) (by simp), rdNum_neg (by omega) hg' hr]
      rw [List.length_cons, Nat.add_comm, show (-(i.natAbs : Int)) = i by omega]
    · rw [if_neg h]
      have hne := numL_ne i.natAbs
      obtain ⟨c, r, e⟩ : ∃ c r, numL i.natAbs = c :: r := by cases h : numL i.natAbs with | nil => exact absurd h hne | cons c r => exact ⟨c, r, rfl⟩
      have hc : 48 ≤ c ∧ c ≤ 57 := numL_digits i.natAbs c (by rw [e]; exact List.mem_cons_self)
      have hh : (numL i.natAbs ++ rest).head? = some c := by rw [e]; rfl
      rw [rd_num k _ (by rw [hh]; simp; omega) (by rw [hh]; simp; omega) (by rw [hh]; simp; omega), rdNum_nat hg' hr, show (i.natAbs : Int) = i by omega]
  | .str s, k, rest, hg, _ => by
    have hg' : 34 ∉ s := by unfold good at hg; exact hg
    show rd k (34 :: (s ++ [34] ++ rest)) = _
    rw [rd_str, List.append_assoc]
    show rdStr (s ++ 34 :: rest) = _
    unfold rdStr
    rw [inn_app hg', if_neg (by simp)]
    simp [wr]
  | .tup l, 0, rest, hg, _ => by unfold good at hg; exact hg.elim
  | .tup l, k + 1, rest, hg, _ => by
    have hg' : goods k l := by unfold good at hg; exact hg
    show rd (k + 1) (40 :: (wrs l ++ [41] ++ rest)) = _
    rw [rd_tup, List.append_assoc]
    show (match loop (rd k) true (wrs l ++ 41 :: rest) [] with | .ok l n => Res.ok (Paper.tup l) (1 + n) | .bad n => .bad (1 + n)) = _
    rw [loop_wrs l k rest hg']
    simp [wr]; omega
theorem loop_wrs : ∀ (l : List Paper) (k : Nat) (rest : List Nat), goods k l → loop (rd k) true (wrs l ++ 41 :: rest) [] = .ok l ((wrs l).length + 1)
  | [], k, rest, _ => by
    rw [loop_end (by simp [wrs])]
    simp [wrs]
  | p :: r, k, rest, hg => by
    have hg' : good k p ∧ goods k r := by unfold goods at hg; exact hg
    have e1 : wrs (p :: r) ++ 41 :: rest = wr p ++ (wrt r ++ 41 :: rest) := by simp [wrs]
    have hh : (wr p ++ (wrt r ++ 41 :: rest)).head? = (wr p).head? := head_app (wr_ne p)
    have h41 : (wr p).head? ≠ some 41 := fun z => (wr_head p 41 z).1 rfl
    have hp := rd_wr p k (wrt r ++ 41 :: rest) hg'.1 (fol_wrt r rest)
    have hz : 0 < (wr p).length := List.length_pos_iff.mpr (wr_ne p)
    rw [e1, loop_ok (by rw [hh]; exact h41) (.inl rfl) (by exact hp) ⟨hz, by rw [List.length_append]; show 0 + _ ≤ _; omega⟩]
    show Res.shift (0 + (wr p).length) (loop (rd k) false ((wr p ++ (wrt r ++ 41 :: rest)).drop (0 + (wr p).length)) ([] ++ [p])) = _
    rw [Nat.zero_add, List.drop_append_of_le_length (Nat.le_refl _), List.drop_length, List.nil_append, List.nil_append, loop_wrt r k rest [p] hg'.2]
    simp [Res.shift, wrs]; omega
theorem loop_wrt : ∀ (l : List Paper) (k : Nat) (rest : List Nat) (acc : List Paper), goods k l → loop (rd k) false (wrt l ++ 41 :: rest) acc = .ok (acc ++ l) ((wrt l).length + 1)
  | [], k, rest, acc, _ => by
    rw [loop_end (by simp [wrt])]
    simp [wrt]
  | p :: r, k, rest, acc, hg => by
    have hg' : good k p ∧ goods k r := by unfold goods at hg; exact hg
    have e1 : wrt (p :: r) ++ 41 :: rest = 32 :: (wr p ++ (wrt r ++ 41 :: rest)) := by simp [wrt]
    have hp := rd_wr p k (wrt r ++ 41 :: rest) hg'.1 (fol_wrt r rest)
    have hz : 0 < (wr p).length := List.length_pos_iff.mpr (wr_ne p)
    rw [e1, loop_ok (by simp) (.inr rfl) (by exact hp) ⟨hz, by rw [List.length_cons, List.length_append]; show 1 + _ ≤ _; omega⟩]
    show Res.shift (1 + (wr p).length) (loop (rd k) false ((32 :: (wr p ++ (wrt r ++ 41 :: rest))).drop (1 + (wr p).length)) (acc ++ [p])) = _
    rw [show 1 + (wr p).length = (wr p).length + 1 from Nat.add_comm _ _, List.drop_succ_cons, List.drop_append_of_le_length (Nat.le_refl _), List.drop_length, List.nil_append, loop_wrt r k rest (acc ++ [p]) hg'.2]
    simp [Res.shift, wrt]; omega
end
/-! ### deep papers -/
def deepP : Nat → Paper
  | 0 => .tup []
  | n + 1 => .tup [deepP n]
theorem wr_deep : ∀ n, wr (deepP n) = List.replicate (n + 1) 40 ++ List.replicate (n + 1) 41
  | 0 => by simp [deepP, wr, wrs]
  | n + 1 => by
    have ih := wr_deep n
    simp only [deepP, wr, wrs, wrt, List.append_nil, ih]
    rw [show (List.replicate (n + 1 + 1) 40 : List Nat) = 40 :: List.replicate (n + 1) 40 from List.replicate_succ, List.cons_append, List.append_assoc,
      show (List.replicate (n + 1 + 1) 41 : List Nat) = List.replicate (n + 1) 41 ++ [41] from List.replicate_succ']
theorem good_deep : ∀ n, good (n + 1) (deepP n)
  | 0 => by simp [deepP, good, goods]
  | n + 1 => by
    have ih := good_deep n
    simp [deepP, good, goods, ih]
theorem rd_open : ∀ (k : Nat) (s : List Nat), rd k (List.replicate (k + 1) 40 ++ s) = .bad k
  | 0, s => by rw [List.replicate_succ]; exact rd_zero _
  | k + 1, s => by
    have ih := rd_open k s
    rw [List.replicate_succ, List.cons_append, rd_tup, loop_bad (n := k) (by rw [List.replicate_succ]; simp) (.inl rfl) (by exact ih)]
    show Res.bad (1 + (0 + k)) = .bad (k + 1)
    rw [Nat.zero_add, Nat.add_comm]
/-- what is told of a whole text -/
inductive Told where | paper (p : Paper) | bad (n : Nat)
def told (s : List Nat) : Told := match rd 60 s with
  | .bad n => .bad n
  | .ok p n => if n < s.length then .bad n else .paper p
theorem told_wr {p : Paper} (h : good 60 p) : told (wr p) = .paper p := by
  have e := rd_wr p 60 [] h (fun c hc => by simp at hc)
  rw [List.append_nil] at e
  unfold told
  rw [e]
  simp
theorem told_open : told (40 :: (wr (deepP 59) ++ [41])) = .bad 60 := by
  have e : 40 :: (wr (deepP 59) ++ [41]) = List.replicate 61 40 ++ (List.replicate 60 41 ++ [41]) := by
    rw [wr_deep, show (List.replicate 61 40 : List Nat) = 40 :: List.replicate 60 40 from List.replicate_succ, List.cons_append, List.append_assoc]
  unfold told
  rw [e, rd_open 60]
theorem rdNum_pos {s ds : List Nat} {v : Nat} (h1 : s.head? ≠ some 45) (h2 : s.head? ≠ some 48) (h3 : digs s = ds) (h4 : ds ≠ []) (h5 : digitsVal ds = v) : rdNum s = .ok (.int (v : Int)) ds.length := by
  subst h5
  unfold rdNum
  rw [if_neg h1, if_neg h2, h3, if_neg h4]
theorem told_long : told (List.replicate 20 49) = .paper (.int ((11111111111111111111 : Nat) : Int)) := by
  unfold told
  rw [rd_num 60 _ (by decide) (by decide) (by decide), rdNum_pos (s := List.replicate 20 49) (ds := List.replicate 20 49) (v := 11111111111111111111) (by decide) (by decide) (by decide +kernel) (by decide) (by decide +kernel)]
  simp
theorem told_long1 : told (List.replicate 20 49 ++ [49]) = .bad 20 := by
  unfold told
  rw [rd_num 60 _ (by decide) (by decide) (by decide), rdNum_pos (s := List.replicate 20 49 ++ [49]) (ds := List.replicate 20 49) (v := 11111111111111111111) (by decide) (by decide) (by decide +kernel) (by decide) (by decide +kernel)]
  simp
theorem told_m0 : told [45, 48] = .bad 1 := by
  unfold told
  rw [rd_num 60 _ (by decide) (by decide) (by decide)]
  unfold rdNum
  rw [if_pos (by decide), if_pos (by decide)]
theorem told_00 : told [48, 48] = .bad 1 := by
  unfold told
  rw [rd_num 60 _ (by decide) (by decide) (by decide)]
  unfold rdNum
  rw [if_neg (by decide), if_pos (by decide)]
  simp
theorem told_mb : told [45, 32] = .bad 1 := by
  unfold told
  rw [rd_num 60 _ (by decide) (by decide) (by decide)]
  unfold rdNum
  rw [if_pos (by decide), if_neg (by decide), if_pos (by decide +kernel)]
end Toy

set_option Elab.async false
set_option linter.all false
set_option maxRecDepth 100000
set_option maxHeartbeats 4000000
/-! ### a small layer of one's own over HandS -/
namespace L2
open PySem PySem.Spec PyProof.Rows
theorem b_len : bootBuiltins "len" = some (.builtin "len") := by decide +kernel
theorem b_abs : bootBuiltins "abs" = some (.builtin "abs") := by decide +kernel
theorem b_ord : bootBuiltins "ord" = some (.builtin "ord") := by decide +kernel
theorem b_isinstance : bootBuiltins "isinstance" = some (.builtin "isinstance") := by decide +kernel
theorem b_int : bootBuiltins "int" = some (.type "int") := by decide +kernel
theorem b_str : bootBuiltins "str" = some (.type "str") := by decide +kernel
theorem b_bool : bootBuiltins "bool" = some (.type "bool") := by decide +kernel
theorem b_tuple : bootBuiltins "tuple" = some (.type "tuple") := by decide +kernel
theorem b_list : bootBuiltins "list" = some (.type "list") := by decide +kernel
/-! defs, methods, classes by their names -/
structure CalX (P : Program) (w : World) (K : PySem.W.Frag) (mg : Str → Option Value) (base : Heap) (CX : CXT) (k : Nat) (x : Str) (sp : Sp) : Prop where
  ex : ∃ (f : Addr) (fd : FuncData) (ps : List Str), FnOk P w K mg base CX k f fd ps sp ∧ mg x = some (.ref f) ∧ PySem.W.keepIn K (.ref f) = true ∧ Binds K fd ps []
structure MetX (P : Program) (w : World) (K : PySem.W.Frag) (mg : Str → Option Value) (base : Heap) (CX : CXT) (k : Nat) (C : Addr) (m : Str) (sp : Sp) : Prop where
  ex : ∃ (f : Addr) (fd : FuncData) (ps : List Str), FnOk P w K mg base CX k f fd ps sp ∧ Cls K C ∧ Meth K C m f ∧ Binds K fd ps []
structure MakX (P : Program) (w : World) (K : PySem.W.Frag) (mg : Str → Option Value) (base : Heap) (CX : CXT) (k : Nat) (x : Str) (C : Addr) (sp : Sp) : Prop where
  ex : ∃ (f : Addr) (fd : FuncData) (ps : List Str), Mk K C f ∧ FnOk P w K mg base CX k f fd ps sp ∧ mg x = some (.ref C) ∧ Binds K fd ps []
section
variable {X : Cx} {CX : CXT} {k j : Nat} {C : Addr} {x m : Str} {sp : Sp} {E : XK} {p pos apos : Pos} {e o : Expr} {es : List Expr} {ta : TE} {t : TA}
theorem pe_u (c : CalX X.prog X.w X.K X.mg X.base CX k x sp) (hr : Room j X.A) (hk : k ≤ j) (hx : Passes CX X E) (ha : PA X (e :: es) t) (hg : Gl X x := by rfl) (hd : (x == ("__debug__" : Str)) = false := by decide)
    (he : starEach (e :: es) X.env = (false, eval e X.env) :: starEach es X.env := by rfl) (hpl : (backTo pos (starEach es X.env)).any (·.1) = false := by rfl) :
    PE X (.Call (.Name x p) (e :: es) [] pos) (tCall sp [] E t) := by
  obtain ⟨f, fd, ps, F, hm, hkp, hb⟩ := c.ex
  exact pe_call F (hr.mono hk) hg hm hkp hb .nil hx ha hd he hpl
theorem pe_u0 (c : CalX X.prog X.w X.K X.mg X.base CX k x sp) (hr : Room j X.A) (hk : k ≤ j) (hx : Passes CX X E) (hg : Gl X x := by rfl) (hd : (x == ("__debug__" : Str)) = false := by decide) :
    PE X (.Call (.Name x p) [] [] pos) (tCall sp [] E tNil) := by
  obtain ⟨f, fd, ps, F, hm, hkp, hb⟩ := c.ex
  exact pe_call0 F (hr.mono hk) hg hm hkp hb .nil hx hd
theorem pe_uS {E : St → XK} (c : CalX X.prog X.w X.K X.mg X.base CX k x sp) (hr : Room j X.A) (hk : k ≤ j) (hx : ∀ σ, PassesAt CX X σ (E σ)) (ha : PA X (e :: es) t) (hg : Gl X x := by rfl) (hd : (x == ("__debug__" : Str)) = false := by decide)
    (he : starEach (e :: es) X.env = (false, eval e X.env) :: starEach es X.env := by rfl) (hpl : (backTo pos (starEach es X.env)).any (·.1) = false := by rfl) :
    PE X (.Call (.Name x p) (e :: es) [] pos) (tCallS sp E t) := by
  obtain ⟨f, fd, ps, F, hm, hkp, hb⟩ := c.ex
  exact pe_callS F (hr.mono hk) hg hm hkp hb hx ha hd he hpl
theorem pe_me {pl : Sem Bool} (c : MetX X.prog X.w X.K X.mg X.base CX k C m sp) (hr : Room j X.A) (hk : k ≤ j) (hx : Passes CX X E) (he : PE X o ta) (ha : PA X (e :: es) t)
    (hc : eval (.Call (.Attribute o m apos) (e :: es) [] pos) X.env = (do
      let ov ← eval o X.env
      standAt apos.atName
      let (f, first) ← holding [ov] (getMethod ov m pl)
      callWith pos f first (backTo pos (starEach (e :: es) X.env)) (backToKw pos (keywordEach [] X.env))) := by rfl)
    (hs : starEach (e :: es) X.env = (false, eval e X.env) :: starEach es X.env := by rfl) (hpl : (backTo pos (starEach es X.env)).any (·.1) = false := by rfl) :
    PE X (.Call (.Attribute o m apos) (e :: es) [] pos) (tMeth C m sp [] E ta t) := by
  obtain ⟨f, fd, ps, F, cl, hm, hb⟩ := c.ex
  exact pe_meth he cl hm F (hr.mono hk) hb .nil hx ha hs hpl hc
theorem pe_me0 {pl : Sem Bool} (c : MetX X.prog X.w X.K X.mg X.base CX k C m sp) (hr : Room j X.A) (hk : k ≤ j) (hx : Passes CX X E) (he : PE X o ta)
    (hc : eval (.Call (.Attribute o m apos) [] [] pos) X.env = (do
      let ov ← eval o X.env
      standAt apos.atName
      let (f, first) ← holding [ov] (getMethod ov m pl)
      callWith pos f first (backTo pos (starEach [] X.env)) (backToKw pos (keywordEach [] X.env))) := by rfl) :
    PE X (.Call (.Attribute o m apos) [] [] pos) (tMeth C m sp [] E ta tNil) := by
  obtain ⟨f, fd, ps, F, cl, hm, hb⟩ := c.ex
  exact pe_meth0 he cl hm F (hr.mono hk) hb .nil hx hc
theorem pe_n (c : MakX X.prog X.w X.K X.mg X.base CX k x C sp) (hr : Room j X.A) (hk : k + 1 ≤ j) (hx : Passes CX X E) (ha : PA X (e :: es) t) (hg : Gl X x := by rfl) (hd : (x == ("__debug__" : Str)) = false := by decide)
    (he : starEach (e :: es) X.env = (false, eval e X.env) :: starEach es X.env := by rfl) (hpl : (backTo pos (starEach es X.env)).any (·.1) = false := by rfl) :
    PE X (.Call (.Name x p) (e :: es) [] pos) (tMake C sp [] E t) := by
  obtain ⟨f, fd, ps, M, F, hm, hb⟩ := c.ex
  exact pe_make M F (hr.mono hk) hg hm hb .nil hx ha hd he hpl
theorem pe_n0 (c : MakX X.prog X.w X.K X.mg X.base CX k x C sp) (hr : Room j X.A) (hk : k + 1 ≤ j) (hx : Passes CX X E) (hg : Gl X x := by rfl) (hd : (x == ("__debug__" : Str)) = false := by decide) :
    PE X (.Call (.Name x p) [] [] pos) (tMake C sp [] E tNil) := by
  obtain ⟨f, fd, ps, M, F, hm, hb⟩ := c.ex
  exact pe_make0 M F (hr.mono hk) hg hm hb .nil hx hd
end
/-! rules -/
section
variable {X : Cx}
def rGetL (K : PySem.W.Frag) : V → V → Hp → VK → Prop := fun x y H Q => ∃ p xs i v, x = .ref p ∧ y = .int i ∧ SqL K H p xs ∧ 0 ≤ i ∧ atI xs i = some v ∧ Q v H
theorem get_list : PGet X (rGetL X.K) := by
  intro pins s σ H o i ov iv Q I ro ri h
  obtain ⟨p, xs, k, v, rfl, rfl, hq, h0, he, q⟩ := h
  cases ro
  obtain ⟨t, rfl⟩ := ri
  obtain ⟨its, r, pl, hz⟩ := I.list hq
  obtain ⟨j, h1, h2, h3, h4, h5⟩ := atI_get he
  obtain ⟨w, ew, rw'⟩ := r.get h2
  have hl := r.length
  have hn := line63
  have hj : k.toNat = j := by
    rw [seqIndex_of h0 h5] at h1
    exact Option.some.inj h1
  exact wpAny_getItem_list pl.isList h0 (by omega) (by rw [hj]; simpa using ew) ⟨v, H, I, rw', q⟩
/-- list(text) -/
def ones (l : List Nat) : List V := l.map fun c => V.str ⟨#[c]⟩
def rListStr : List V → Hp → VK → Prop := fun xs H Q => ∃ x : Str, xs = [.str x] ∧ x.length ≤ sizeLine ∧ ∀ p, H p = none → Q (.ref p) (upd H p (.lst (ones x.cps.toList)))
theorem call_list_str (hc : X.calm = true) : CallR X (.type "list") rListStr := by
  intro pins s σ H xs us Q I r h
  obtain ⟨x, rfl, hz, q⟩ := h
  obtain ⟨u, rfl, rx⟩ := vals1 r
  obtain ⟨t, rfl⟩ := rx
  have hz' : x.cps.size ≤ sizeLine := hz
  refine PySem.call_list_str (I.ok.hd hc) x t (fun h' tk acc' c' hk hS hacc => ?_) hz'
  have hv : Vals (ones x.cps.toList) acc'.toList := by
    have all : ∀ (n : Nat) (l : List Nat) (m : List Value), l.length = n → m.length = n → (∀ (j : Nat) (v : Value), m[j]? = some v → ∃ (c : Nat) (u : Tok), l[j]? = some c ∧ v = Value.str ⟨#[c]⟩ u) → Vals (ones l) m := by
      intro n
      induction n with
      | zero =>
        intro l m h1 h2 _
        obtain rfl := List.length_eq_zero_iff.mp h1
        obtain rfl := List.length_eq_zero_iff.mp h2
        exact .nil
      | succ n ih =>
        intro l m h1 h2 hm
        cases l with
        | nil => simp at h1
        | cons a l =>
          cases m with
          | nil => simp at h2
          | cons b m =>
            obtain ⟨c, u, e1, e2⟩ := hm 0 b rfl
            have e1' : a = c := Option.some.inj e1
            subst e1'
            exact .cons ⟨u, e2⟩ (ih l m (by simpa using h1) (by simpa using h2) fun j v e => hm (j + 1) v e)
    refine all x.cps.size _ _ (by simp) (by simpa using hacc.1) fun j v e => ?_
    obtain ⟨c, u, e1, e2⟩ := hacc.2 j v (by simpa using e)
    exact ⟨c, u, by simpa using e1, e2⟩
  have hl : (ones x.cps.toList).length ≤ sizeLine := by
    unfold ones
    rw [List.length_map]
    simpa using hz'
  exact ⟨.ref s.heap.objs.size, _, I.laid (t' := tk) hk (Nat.le_refl _) (show ObjOk X.prog X.w _ h' _ (.lst (ones x.cps.toList)) from ⟨hl, acc'.toList, c', hv, by rw [Array.toArray_toList]; exact hS⟩), rfl, q _ (I.hok.fresh (Nat.le_refl _))⟩
/-- text * n -/
theorem op_mul_str : OpR X (binaryOp .Mult) (fun x y H Q => ∃ z n, x = .str z ∧ y = .int n ∧ MulOk z n ∧ Q (.str (Txt.mul z n)) H) := by
  intro pins s σ H x y v u Q I rx ry h
  obtain ⟨z, n, rfl, rfl, hok, q⟩ := h
  obtain ⟨t, rfl⟩ := rx
  obtain ⟨t', rfl⟩ := ry
  exact SB.mul hok fun t' k => ⟨.str _, H, I.tok k, ⟨_, rfl⟩, q⟩
end
/-! more -/
section
variable {X : Cx}
/-- a module's whole number -/
theorem pe_gi {x : Str} {n : Int} {pos : Pos} (hm : ∃ t, X.mg x = some (.int n t)) (hg : Gl X x := by rfl) (hd : (x == ("__debug__" : Str)) = false := by decide) : PE X (.Name x pos) (tC (.int n)) := by
  obtain ⟨t, e⟩ := hm
  exact pe_glob hg e ⟨_, rfl⟩ hd
end
/-! with the written part named (within a comprehension) -/
section
variable {X : Cx}
theorem ixK_tup (K : PySem.W.Frag) (h : X.K = K) : IxR X (rIxT K) := by subst h; exact ix_tup
theorem ixK_list (K : PySem.W.Frag) (h : X.K = K) : IxR X (rIxL K) := by subst h; exact ix_list
/-- isinstance(x, a built-in class), the answer by a table -/
def rIsi2 (K : PySem.W.Frag) : List V → Hp → VK → Prop := fun xs H Q => ∃ (x : V) (t c : String) (b : Bool), xs = [x, .ty c] ∧ TyX K H x (.type t) ∧ kitB t c = some b ∧ Q (.bl b) H
theorem call_isi2 : CallR X (.builtin "isinstance") (rIsi2 X.K) := by
  intro pins s σ H xs us Q I r h
  obtain ⟨x, t, c, b, rfl, ty, hk, q⟩ := h
  exact call_isi pins s σ H _ us Q I r ⟨x, .ty c, .type t, .type c, b, rfl, .ty _, ty, kit_ty hk, q⟩
theorem callK_isi (K : PySem.W.Frag) (h : X.K = K) : CallR X (.builtin "isinstance") (rIsi2 K) := by subst h; exact call_isi2
theorem callK_len_seq (K : PySem.W.Frag) (h : X.K = K) : CallR X (.builtin "len") (fun xs H Q => ∃ p ys, xs = [.ref p] ∧ (SqL K H p ys ∨ SqT K H p ys) ∧ Q (.int ys.length) H) := by subst h; exact call_len_seq
theorem callK_len (K : PySem.W.Frag) (h : X.K = K) : CallR X (.builtin "len") (fun xs H Q => ∃ x n, xs = [x] ∧ LenV K x H n ∧ Q (.int n) H) := by subst h; exact call_len
theorem callK_tuple_of (K : PySem.W.Frag) (h : X.K = K) : CallR X (.type "tuple") (fun xs H Q => ∃ p ys, xs = [.ref p] ∧ ((SqL K H p ys ∧ ∀ l, H l = none → Q (.ref l) (upd H l (.tup ys))) ∨ (SqT K H p ys ∧ Q (.ref p) H))) := by subst h; exact call_tuple_of
end
/-- a while by ghosts -/
def whW {α : Type} (W : α → St → Hp → Prop) (μ : α → Nat) : Nat → St → Hp → Prop := fun m σ H => ∃ a, m = μ a ∧ W a σ H
def whN {α : Type} (W : α → St → Hp → Prop) (μ : α → Nat) (a : α) : St → Hp → Prop := fun σ' H' => ∃ a', μ a' < μ a ∧ W a' σ' H'
theorem whN_ok {α : Type} {W : α → St → Hp → Prop} {μ : α → Nat} {a : α} : ∀ σ' H', whN W μ a σ' H' → ∃ m', m' < μ a ∧ whW W μ m' σ' H' := fun _ _ ⟨a', l, w⟩ => ⟨μ a', l, a', rfl, w⟩
theorem wh {α : Type} {c : TT} {tb : TS} {D : Ends} {σ : St} {H : Hp} (W : α → St → Hp → Prop) (μ : α → Nat) (a : α) (h0 : W a σ H)
    (hs : ∀ a σ H, W a σ H → c σ H fun b H1 => if b = true then ∃ N : St → Hp → Prop, (∀ σ' H', N σ' H' → ∃ m', m' < μ a ∧ whW W μ m' σ' H') ∧ tb { D with nx := N, ct := N, bk := D.nx } σ H1 else D.nx σ H1) : tWhile c tb D σ H := by
  refine ⟨whW W μ, ⟨μ a, a, rfl, h0⟩, ?_⟩
  rintro m σ H ⟨a, rfl, w⟩
  exact hs a σ H w
theorem ifT {c A B : Prop} [Decidable c] (h : c) (a : A) : if c then A else B := by
  rw [if_pos h]
  exact a
theorem ifF {c A B : Prop} [Decidable c] (h : ¬ c) (b : B) : if c then A else B := by
  rw [if_neg h]
  exact b
/-- for c in a text -/
theorem for_str {x : Str} {g : TG} {tb : TS} {D : Ends} {σ : St} {H : Hp} (Pv : Nat → St → Hp → Prop) (h0 : Pv 0 σ H)
    (hs : ∀ i c σ H, x.cps[i]? = some c → Pv i σ H → g (.str ⟨#[c]⟩) σ H fun σ2 H2 => tb { D with nx := Pv (i + 1), ct := Pv (i + 1), bk := D.nx } σ2 H2) (hd : ∀ σ H, Pv x.cps.size σ H → D.nx σ H) :
    ∃ W : Nat → Nat → St → Hp → Prop, (∃ m, W 0 m σ H) ∧ ∀ i m σ H, W i m σ H →
      ((Its x).stop i H ∧ D.nx σ H) ∨ ((Its x).go i H ∧ ∃ N : St → Hp → Prop, (∀ σ' H', N σ' H' → ∃ m', m' < m ∧ W (i + 1) m' σ' H') ∧ ∀ v H', (Its x).yld i H v H' → g v σ H' fun σ2 H2 => tb { D with nx := N, ct := N, bk := D.nx } σ2 H2) := by
  refine ⟨fun i m σ H => m = x.cps.size - i ∧ i ≤ x.cps.size ∧ Pv i σ H, ⟨x.cps.size, by simp, Nat.zero_le _, h0⟩, ?_⟩
  rintro i m σ H ⟨rfl, hi, p⟩
  by_cases hlt : i < x.cps.size
  · refine .inr ⟨hlt, Pv (i + 1), fun σ' H' p' => ⟨x.cps.size - (i + 1), by omega, rfl, hlt, p'⟩, fun v H' y => ?_⟩
    obtain ⟨e, c, hc, ev⟩ := y
    subst e ev
    exact hs i c σ _ hc p
  · have e : i = x.cps.size := by omega
    subst e
    exact .inl ⟨Nat.le_refl _, hd σ H p⟩
/-! heaps: all but what stands at d is kept -/
def Keep (d : Addr) (H H' : Hp) : Prop := ∀ b o, b ≠ d → H b = some o → H' b = some o
theorem Keep.refl (d : Addr) (H : Hp) : Keep d H H := fun _ _ _ h => h
theorem Keep.trans {d : Addr} {H H1 H2 : Hp} (a : Keep d H H1) (b : Keep d H1 H2) : Keep d H H2 := fun c o n h => b c o n (a c o n h)
theorem Same.keep {d : Addr} {H H' : Hp} (a : Same H H') : Keep d H H' := fun b o _ h => a b o h
theorem Same.upd {H : Hp} {p : Addr} {o : HO} (h : H p = none) : Same H (upd H p o) := fun b u e => by
  rw [upd_ne (ne_of_none e h)]
  exact e
theorem Keep.upd {d : Addr} {H : Hp} {o : HO} : Keep d H (upd H d o) := fun b u n e => by
  rw [upd_ne n]
  exact e
theorem Keep.new {d p : Addr} {H : Hp} {o : HO} (h : H p = none) : Keep d H (L2.upd H p o) := (Same.upd h).keep
end L2

set_option Elab.async false
set_option linter.all false
set_option maxRecDepth 100000
set_option maxHeartbeats 4000000
namespace Toy
open PySem L2 TL
open SX (S)
/-! ### papers in the heap -/
mutual
inductive PV (H : Hp) : V → Paper → Prop
  | non : PV H .non .non
  | int (i : Int) : PV H (.int i) (.int i)
  | str (s : List Nat) : PV H (.str (SX.S s)) (.str s)
  | tup {a : Addr} {vs : List V} {l : List Paper} : H a = some (.tup vs) → vs.length ≤ 100000 → PVs H vs l → PV H (.ref a) (.tup l)
inductive PVs (H : Hp) : List V → List Paper → Prop
  | nil : PVs H [] []
  | cons {v : V} {p : Paper} {vs : List V} {l : List Paper} : PV H v p → PVs H vs l → PVs H (v :: vs) (p :: l)
end
mutual
theorem PV.mono {H H' : Hp} (k : ∀ b xs, H b = some (.tup xs) → H' b = some (.tup xs)) : ∀ {v : V} {p : Paper}, PV H v p → PV H' v p
  | _, _, .non => .non
  | _, _, .int i => .int i
  | _, _, .str s => .str s
  | _, _, .tup e z h => .tup (k _ _ e) z (PVs.mono k h)
theorem PVs.mono {H H' : Hp} (k : ∀ b xs, H b = some (.tup xs) → H' b = some (.tup xs)) : ∀ {vs : List V} {l : List Paper}, PVs H vs l → PVs H' vs l
  | _, _, .nil => .nil
  | _, _, .cons a b => .cons (PV.mono k a) (PVs.mono k b)
end
theorem PVs.get {H : Hp} : ∀ {vs : List V} {l : List Paper} {i : Nat} {v : V}, PVs H vs l → vs[i]? = some v → ∃ p, l[i]? = some p ∧ PV H v p
  | _, _, i, _, .nil, e => by simp at e
  | _, _, 0, _, .cons a _, e => by
    simp at e; subst e; exact ⟨_, rfl, a⟩
  | _, _, i + 1, _, .cons _ b, e => by
    obtain ⟨p, e1, e2⟩ := PVs.get b (i := i) (by simpa using e)
    exact ⟨p, by simpa using e1, e2⟩
theorem PVs.length {H : Hp} : ∀ {vs : List V} {l : List Paper}, PVs H vs l → vs.length = l.length
  | _, _, .nil => rfl
  | _, _, .cons _ b => by simp [PVs.length b]
theorem PVs.snoc {H : Hp} {v : V} {p : Paper} : ∀ {vs : List V} {l : List Paper}, PVs H vs l → PV H v p → PVs H (vs ++ [v]) (l ++ [p])
  | _, _, .nil, h => .cons h .nil
  | _, _, .cons a b, h => .cons a (PVs.snoc b h)
theorem Same.tups {H H' : Hp} (s : Same H H') : ∀ b xs, H b = some (.tup xs) → H' b = some (.tup xs) := fun b xs e => s b _ e
theorem PV.same {H H' : Hp} (s : Same H H') {v : V} {p : Paper} (h : PV H v p) : PV H' v p := h.mono (Same.tups s)
theorem PVs.same {H H' : Hp} (s : Same H H') {v : List V} {p : List Paper} (h : PVs H v p) : PVs H' v p := h.mono (Same.tups s)
/-! what is asked of a paper that is written -/
theorem wrs_eq : ∀ l : List Paper, wrs l = joinL [32] (l.map wr)
  | [] => rfl
  | p :: r => by
    have e : ∀ r : List Paper, ∀ q : Paper, wrs (q :: r) = joinL [32] ((q :: r).map wr) := by
      intro r
      induction r with
      | nil => intro q; simp [wrs, wrt, joinL]
      | cons a r ih =>
        intro q
        have := ih a
        simp only [wrs, wrt, List.map_cons, joinL] at this ⊢
        rw [← this]; simp
    exact e r p
structure Txt (P : Program) (K : PySem.W.Frag) (mg : Str → Option Value) (CB fB cB dB CR : Addr) : Prop where
  z_len : mg "len" = none
  z_abs : mg "abs" = none
  z_ord : mg "ord" = none
  z_isinstance : mg "isinstance" = none
  z_int : mg "int" = none
  z_str : mg "str" = none
  z_bool : mg "bool" = none
  z_tuple : mg "tuple" = none
  z_list : mg "list" = none
  z_range : mg "range" = none
  g_MOST_DEPTH : ∃ t, mg "MOST_DEPTH" = some (.int 60 t)
  g_MOST_DIGITS : ∃ t, mg "MOST_DIGITS" = some (.int 20 t)
  g_BadPaper : mg "BadPaper" = some (.ref CB)
  x_BadPaper : PySem.SupX_at.SupTxt P K mg CB fB cB dB
  cl : Cls K CR
  nT : NoAttr K CR "text"
  nP : NoAttr K CR "place"
/-- write_paper, _law_written_paper: n levels are left -/
def spW : Nat → Sp
  | 0 => fun _ _ _ _ => False
  | n + 1 => fun vs H Q _ => ∃ v p, vs = [v] ∧ PV H v p ∧ good n p ∧ (wr p).length ≤ 100000 ∧ ∀ H', Same H H' → Q (.str (S (wr p))) H'
section
variable {P : Program} {w : World} {K : PySem.W.Frag} {mg : Str → Option Value} {base : Heap} {CB fB cB dB CR : Addr}
theorem s_none : Str.ofString "none" = S [110, 111, 110, 101] := by decide +kernel
theorem s_op : Str.ofString "(" = S [40] := by decide +kernel
theorem s_cl : Str.ofString ")" = S [41] := by decide +kernel
theorem s_sp : Str.ofString " " = S [32] := by decide +kernel
theorem s_q : Str.ofString "\"" = S [34] := by decide +kernel
theorem s_mi : Str.ofString "-" = S [45] := by decide +kernel
theorem s_0 : Str.ofString "0" = S [48] := by decide +kernel
theorem s_e : Str.ofString "" = S [] := by decide +kernel
theorem slen (a : List Nat) : (S a).length = a.length := SX.S_len a
theorem small_line {n : Nat} (h : n ≤ 16777216) : n ≤ sizeLine := by rw [sizeLine_eq]; exact h
theorem int_text (i : Int) : Str.ofString (toString i) = S (wr (.int i)) := by
  unfold wr
  by_cases h : i < 0
  · rw [if_pos h]
    obtain ⟨m, rfl⟩ : ∃ m : Nat, i = -((m : Int) + 1) := ⟨(-i).toNat - 1, by omega⟩
    apply TL.ext_tl
    have e : (toString (-((m : Int) + 1))) = "-" ++ toString (((m + 1 : Nat)) : Int) := by
      show toString (Int.negSucc m) = _
      rfl
    rw [e, TL.tl_ofString, String.toList_append, List.map_append]
    have e2 := TL.tl_num (m + 1)
    rw [TL.tl_ofString] at e2
    rw [e2]
    have e3 : (-((m : Int) + 1)).natAbs = m + 1 := by omega
    rw [e3]
    rfl
  · rw [if_neg h]
    have e := SX.num_S i.natAbs
    rw [show ((i.natAbs : Nat) : Int) = i by omega] at e
    exact e
theorem log_small {i : Int} (h : i.natAbs < 10 ^ 20) : i.natAbs.log2 < 1920 := by
  by_cases h0 : i.natAbs = 0
  · rw [h0]; decide
  · exact (Nat.log2_lt h0).mpr (Nat.lt_of_lt_of_le h (by decide +kernel))
theorem good_int {n : Nat} {i : Int} (h : good n (.int i)) : i.natAbs < 10 ^ 20 := by
  unfold good at h
  exact h
theorem good_tup {n : Nat} {l : List Paper} (h : good n (.tup l)) : ∃ m, n = m + 1 ∧ goods m l := by
  cases n with
  | zero => unfold good at h; exact h.elim
  | succ m => unfold good at h; exact ⟨m, rfl, h⟩
theorem goods_get {k : Nat} : ∀ {l : List Paper} {i : Nat} {p : Paper}, goods k l → l[i]? = some p → good k p
  | [], i, _, _, e => by simp at e
  | a :: l, 0, p, h, e => by
    simp at e; subst e; unfold goods at h; exact h.1
  | a :: l, i + 1, p, h, e => by
    unfold goods at h
    exact goods_get h.2 (i := i) (by simpa using e)
theorem wrt_len : ∀ {l : List Paper} {i : Nat} {p : Paper}, l[i]? = some p → (wr p).length ≤ (wrt l).length
  | [], i, _, e => by simp at e
  | a :: l, 0, p, e => by
    simp at e; subst e; simp [wrt]; omega
  | a :: l, i + 1, p, e => by
    have := wrt_len (l := l) (i := i) (p := p) (by simpa using e)
    simp [wrt]; omega
theorem wr_len {l : List Paper} {i : Nat} {p : Paper} (e : l[i]? = some p) : (wr p).length ≤ (wr (.tup l)).length := by
  cases l with
  | nil => simp at e
  | cons a l =>
    have := wrt_len e
    simp [wr, wrs, wrt] at this ⊢; omega
theorem wrt_sum : ∀ l : List Paper, (l.map fun p => (wr p).length).sum + l.length = (wrt l).length
  | [] => rfl
  | a :: l => by
    have := wrt_sum l
    simp [wrt]; omega
theorem wr_sum (l : List Paper) : (l.map fun p => (wr p).length).sum + l.length ≤ (wr (.tup l)).length + 1 := by
  cases l with
  | nil => simp
  | cons a l =>
    have := wrt_sum l
    simp [wr, wrs] at this ⊢; omega
theorem wr_cnt (l : List Paper) : l.length ≤ (wr (.tup l)).length := by
  have := wr_sum l
  have h : ∀ l : List Paper, l.length ≤ (l.map fun p => (wr p).length).sum := by
    intro l
    induction l with
    | nil => simp
    | cons a l ih =>
      have := List.length_pos_iff.mpr (wr_ne a)
      simp; omega
  have := h l
  cases l with
  | nil => simp
  | cons a l => simp at *; omega
theorem text_tup (l : List Paper) : Str.ofString "(" ++ Txt.join (Str.ofString " ") (l.map fun p => S (wr p)) ++ Str.ofString ")" = S (wr (.tup l)) := by
  have e : (l.map fun p => S (wr p)) = (l.map wr).map S := by rw [List.map_map]; rfl
  rw [e, s_op, s_cl, s_sp, SX.join_S, SX.S_cat, SX.S_cat, ← wrs_eq]
  simp [wr]
theorem text_str (s : List Nat) : Str.ofString "\"" ++ S s ++ Str.ofString "\"" = S (wr (.str s)) := by
  rw [s_q, SX.S_cat, SX.S_cat]
  simp [wr]
theorem app_len (a b : Str) : (a ++ b).length = a.length + b.length := by
  rw [TL.len_tl, TL.tl_append, List.length_append, ← TL.len_tl, ← TL.len_tl]
theorem take_more {α : Type} {l : List α} {i : Nat} {x : α} (h : l[i]? = some x) : l.take (i + 1) = l.take i ++ [x] := by
  rw [List.take_add_one, h]; rfl
theorem join_len (l : List Paper) : (Txt.join (Str.ofString " ") (l.map fun p => S (wr p))).length ≤ (wr (.tup l)).length := by
  have e := congrArg Str.length (text_tup l)
  rw [app_len, app_len, slen (wr (.tup l))] at e
  omega
/-- the list of the parts' texts -/
def ptxt (l : List Paper) : List V := (l.map fun p => S (wr p)).map V.str
theorem ptxt_snoc (l : List Paper) (p : Paper) : ptxt (l ++ [p]) = ptxt l ++ [.str (S (wr p))] := by simp [ptxt]
theorem parts_walk {K : PySem.W.Frag} {a D : Addr} {vs : List V} {l : List Paper} {H : Hp} {n : Nat} {σ : St} {ws : List Nat} {i : Nat} {Qd : Hp → Prop} {te : TE} (ha : H a = some (.tup vs)) (hv : PVs H vs l) (hD : H D = none) (hg : goods n l) (hl : (wr (.tup l)).length ≤ 100000)
    (hw : ∀ x, wipe ((wipe σ ws).set i (some x)) ws = wipe σ ws)
    (hte : ∀ x p H', PV H' x p → good n p → (wr p).length ≤ 100000 → ∀ R : VK, (∀ H2, Same H' H2 → R (.str (S (wr p))) H2) → te ((wipe σ ws).set i (some x)) H' R)
    (hd : ∀ H', Same H H' → H' D = some (.lst (ptxt l)) → Qd H') :
    ∃ W : Nat → Nat → Hp → Prop, (∃ m, W 0 m (upd H D (.lst []))) ∧ ∀ i' m H, W i' m H →
      ((Itt K a).stop i' H ∧ Qd H) ∨ ((Itt K a).go i' H ∧ ∃ Nx : Hp → Prop, (∀ H', Nx H' → ∃ m', m' < m ∧ W (i' + 1) m' H') ∧ ∀ x H', (Itt K a).yld i' H x H' → gName i x (wipe σ ws) H' fun σ2 H2 => wipe σ2 ws = wipe σ ws ∧ tYes σ2 H2 fun b H3 =>
        if b = true then te σ2 H3 fun y H4 => ∃ acc, H4 D = some (.lst acc) ∧ acc.length < sizeLine ∧ Nx (upd H4 D (.lst (acc ++ [y]))) else Nx H3) := by
  refine lc_tup (K := K) (a := a) (xs := vs) (fun j H' => Same H H' ∧ H' D = some (.lst (ptxt (l.take j)))) ⟨Same.upd hD, upd_same⟩ (fun _ H' _ h => SqT.of (h.1 _ _ ha)) (fun j x H' hx h => ?_) (fun H' h => ?_)
  · obtain ⟨p, hp, px⟩ := hv.get hx
    obtain ⟨hs, hd'⟩ := h
    refine ⟨hw x, ?_⟩
    simp only [tYes, if_true]
    refine hte x p H' (px.same hs) (goods_get hg hp) (Nat.le_trans (wr_len hp) hl) _ fun H2 s2 => ?_
    have hlen : (ptxt (l.take j)).length < sizeLine := by
      have := wr_cnt l
      rw [sizeLine_eq]
      simp [ptxt]; omega
    refine ⟨_, s2 _ _ hd', hlen, ?_, ?_⟩
    · intro b o e
      have nb : b ≠ D := ne_of_none e hD
      rw [upd_ne nb]
      exact s2 _ _ (hs _ _ e)
    · rw [upd_same, take_more hp, ptxt_snoc]
  · rw [hv.length, List.take_length] at h
    exact hd H' h.1 h.2
abbrev s_write_paper : Stmt := top 6
theorem sc_write_paper : FnScope ["paper", "part"] ["paper"] (defScope s_write_paper) := ⟨rfl, rfl, rfl, by decide +kernel, rfl, by decide +kernel, by decide +kernel⟩

theorem ok_write {n : Nat} {f : Addr} {fd : FuncData} (F : Fun K "write_paper" "write_paper" s_write_paper f fd) (T : Txt P K mg CB fB cB dB CR) (C_write_paper : CalX P w K mg base CX0 n "write_paper" (spW n)) : FnOk P w K mg base CX0 (n + 1) f fd ["paper"] (spW (n + 1)) := by
  refine F.ok sc_write_paper (fun vs H Q E h => ?_) (fun cdv A outer s H vs Q E hr h => ?_)
  · obtain ⟨v, p, rfl, _⟩ := h
    rfl
  obtain ⟨v, p, rfl, hv, hg, hl, k⟩ := h
  have hr : Room n _ := hr
  refine ⟨_, (pss_cons (ps_if (pt_cmpR op_isN (pv 0) pe_non (nomark _)) (pss_one (ps_ret pe_str)) pss_nil)
    (pss_cons (ps_if (pt_val (pe_callB call_isi2 (by rfl) T.z_isinstance b_isinstance (pa_cons (pv 0) (pa_cons (pe_bltn (v := .ty "str") (by rfl) T.z_str b_str rfl) pa_nil)))) (pss_one (ps_ret (pe_op op_add_str (pe_op op_add_str pe_str (pv 0)) pe_str))) pss_nil)
    (pss_cons (ps_if (pt_val (pe_callB call_isi2 (by rfl) T.z_isinstance b_isinstance (pa_cons (pv 0) (pa_cons (pe_bltn (v := .ty "tuple") (by rfl) T.z_tuple b_tuple rfl) pa_nil)))) (pss_one (ps_ret (pe_op op_add_str (pe_op op_add_str pe_str (pe_join pe_str (pe_lc (own := [("part", 1)]) (g := gName 1) (by rfl) sc_write_paper.nd (pi_tup (pv 0)) (blkOk_by (own := [("part", 1)]) (N := ["paper", "part"]) (sc := defScope s_write_paper) (by decide +kernel)) (fun _ _ _ _ _ => pg_name (i := 1) sc_write_paper.nd rfl (Or.inl rfl)) (fun _ _ _ _ _ => pts_nil) (fun _ _ _ _ _ => (pe_u C_write_paper hr (by omega) pass0 (pa_cons (pv 1) pa_nil)))))) pe_str))) pss_nil)
    (pss_one (ps_ret (pe_callTy call_str_int (by rfl) T.z_str b_str (pa_cons (pv 0) pa_nil))))))), ?_⟩
  cases hv with
  | non =>
    refine ⟨_, rfl, rfl, _, rfl, ifT rfl ?_⟩
    show Q (.str (Str.ofString "none")) H
    rw [s_none]
    exact k _ (Same.refl _)
  | int i =>
    refine ⟨_, rfl, rfl, _, rfl, ifF (by simp) ?_⟩
    refine ⟨_, rfl, _, _, _, false, rfl, .base (.int i), by decide +kernel, _, rfl, ifF Bool.false_ne_true ?_⟩
    refine ⟨_, rfl, _, _, _, false, rfl, .base (.int i), by decide +kernel, _, rfl, ifF Bool.false_ne_true ?_⟩
    refine ⟨_, rfl, _, rfl, log_small (good_int hg), ?_⟩
    show Q (.str (Str.ofString (toString i))) H
    rw [int_text]
    exact k _ (Same.refl _)
  | str z =>
    have hz : z.length + 2 ≤ 100000 := by simpa [wr] using hl
    refine ⟨_, rfl, rfl, _, rfl, ifF (by simp) ?_⟩
    refine ⟨_, rfl, _, _, _, true, rfl, .base (.str _), by decide +kernel, _, rfl, ifT rfl ?_⟩
    refine ⟨_, rfl, _, _, rfl, rfl, ?_, _, _, rfl, rfl, ?_, ?_⟩
    · rw [slen, s_q, slen]; exact small_line (by simp; omega)
    · rw [app_len, slen, s_q, slen]; exact small_line (by simp; omega)
    · show Q (.str (Str.ofString "\"" ++ S z ++ Str.ofString "\"")) H
      rw [text_str]
      exact k _ (Same.refl _)
  | @tup a vs l ha hz hvs =>
    obtain ⟨m, rfl, hgs⟩ := good_tup hg
    refine ⟨_, rfl, rfl, _, rfl, ifF (by simp) ?_⟩
    refine ⟨_, rfl, _, _, _, false, rfl, .base (.tup ha), by decide +kernel, _, rfl, ifF Bool.false_ne_true ?_⟩
    refine ⟨_, rfl, _, _, _, true, rfl, .base (.tup ha), by decide +kernel, _, rfl, ifT rfl ?_⟩
    refine ⟨⟨_, rfl⟩, _, rfl, a, rfl, ⟨_, SqT.of ha⟩, fun D hD => ?_⟩
    refine parts_walk (K := K) ha hvs hD hgs hl (fun x => rfl) (fun x p H' px pg pl R hR => ?_) (fun H' hs hd => ?_)
    · exact ⟨_, rfl, x, p, rfl, px, pg, pl, hR⟩
    · refine ⟨_, D, l.map fun p => S (wr p), rfl, rfl, .inl (SqL.of hd), ?_, _, _, rfl, rfl, ?_, _, _, rfl, rfl, ?_, ?_⟩
      · have := wr_sum l
        rw [s_sp, slen, List.map_map, List.length_map]
        show (l.map fun p => (S (wr p)).length).sum + l.length * 1 ≤ 16777216
        simp only [slen]; omega
      · have := join_len l
        rw [s_op, slen]; exact small_line (by simp; omega)
      · have := join_len l
        rw [app_len, s_op, s_cl, slen [40], slen [41]]; exact small_line (by simp only [List.length_singleton]; omega)
      · show Q (.str (Str.ofString "(" ++ Txt.join (Str.ofString " ") (l.map fun p => S (wr p)) ++ Str.ofString ")")) H'
        rw [text_tup]
        exact k _ hs
abbrev s_l_written_paper : Stmt := top 16
theorem sc_l_written_paper : FnScope ["paper", "part"] ["paper"] (defScope s_l_written_paper) := ⟨rfl, rfl, rfl, by decide +kernel, rfl, by decide +kernel, by decide +kernel⟩

theorem ok_written {n : Nat} {f : Addr} {fd : FuncData} (F : Fun K "_law_written_paper" "_law_written_paper" s_l_written_paper f fd) (T : Txt P K mg CB fB cB dB CR) (C__law_written_paper : CalX P w K mg base CX0 n "_law_written_paper" (spW n)) : FnOk P w K mg base CX0 (n + 1) f fd ["paper"] (spW (n + 1)) := by
  refine F.ok sc_l_written_paper (fun vs H Q E h => ?_) (fun cdv A outer s H vs Q E hr h => ?_)
  · obtain ⟨v, p, rfl, _⟩ := h
    rfl
  obtain ⟨v, p, rfl, hv, hg, hl, k⟩ := h
  have hr : Room n _ := hr
  refine ⟨_, (pss_cons (ps_if (pt_cmpR op_isN (pv 0) pe_non (nomark _)) (pss_one (ps_ret pe_str)) pss_nil)
    (pss_cons (ps_if (pt_val (pe_callB call_isi2 (by rfl) T.z_isinstance b_isinstance (pa_cons (pv 0) (pa_cons (pe_bltn (v := .ty "tuple") (by rfl) T.z_tuple b_tuple rfl) pa_nil)))) (pss_one (ps_ret (pe_op op_add_str (pe_op op_add_str pe_str (pe_join pe_str (pe_lc (own := [("part", 1)]) (g := gName 1) (by rfl) sc_l_written_paper.nd (pi_tup (pv 0)) (blkOk_by (own := [("part", 1)]) (N := ["paper", "part"]) (sc := defScope s_l_written_paper) (by decide +kernel)) (fun _ _ _ _ _ => pg_name (i := 1) sc_l_written_paper.nd rfl (Or.inl rfl)) (fun _ _ _ _ _ => pts_nil) (fun _ _ _ _ _ => (pe_u C__law_written_paper hr (by omega) pass0 (pa_cons (pv 1) pa_nil)))))) pe_str))) pss_nil)
    (pss_cons (ps_if (pt_val (pe_callB call_isi2 (by rfl) T.z_isinstance b_isinstance (pa_cons (pv 0) (pa_cons (pe_bltn (v := .ty "str") (by rfl) T.z_str b_str rfl) pa_nil)))) (pss_one (ps_ret (pe_op op_add_str (pe_op op_add_str pe_str (pv 0)) pe_str))) pss_nil)
    (pss_one (ps_ret (pe_callTy call_str_int (by rfl) T.z_str b_str (pa_cons (pv 0) pa_nil))))))), ?_⟩
  cases hv with
  | non =>
    refine ⟨_, rfl, rfl, _, rfl, ifT rfl ?_⟩
    show Q (.str (Str.ofString "none")) H
    rw [s_none]
    exact k _ (Same.refl _)
  | int i =>
    refine ⟨_, rfl, rfl, _, rfl, ifF (by simp) ?_⟩
    refine ⟨_, rfl, _, _, _, false, rfl, .base (.int i), by decide +kernel, _, rfl, ifF Bool.false_ne_true ?_⟩
    refine ⟨_, rfl, _, _, _, false, rfl, .base (.int i), by decide +kernel, _, rfl, ifF Bool.false_ne_true ?_⟩
    refine ⟨_, rfl, _, rfl, log_small (good_int hg), ?_⟩
    show Q (.str (Str.ofString (toString i))) H
    rw [int_text]
    exact k _ (Same.refl _)
  | str z =>
    have hz : z.length + 2 ≤ 100000 := by simpa [wr] using hl
    refine ⟨_, rfl, rfl, _, rfl, ifF (by simp) ?_⟩
    refine ⟨_, rfl, _, _, _, false, rfl, .base (.str _), by decide +kernel, _, rfl, ifF Bool.false_ne_true ?_⟩
    refine ⟨_, rfl, _, _, _, true, rfl, .base (.str _), by decide +kernel, _, rfl, ifT rfl ?_⟩
    refine ⟨_, rfl, _, _, rfl, rfl, ?_, _, _, rfl, rfl, ?_, ?_⟩
    · rw [slen, s_q, slen]; exact small_line (by simp; omega)
    · rw [app_len, slen, s_q, slen]; exact small_line (by simp; omega)
    · show Q (.str (Str.ofString "\"" ++ S z ++ Str.ofString "\"")) H
      rw [text_str]
      exact k _ (Same.refl _)
  | @tup a vs l ha hz hvs =>
    obtain ⟨m, rfl, hgs⟩ := good_tup hg
    refine ⟨_, rfl, rfl, _, rfl, ifF (by simp) ?_⟩
    refine ⟨_, rfl, _, _, _, true, rfl, .base (.tup ha), by decide +kernel, _, rfl, ifT rfl ?_⟩
    refine ⟨⟨_, rfl⟩, _, rfl, a, rfl, ⟨_, SqT.of ha⟩, fun D hD => ?_⟩
    refine parts_walk (K := K) ha hvs hD hgs hl (fun x => rfl) (fun x p H' px pg pl R hR => ?_) (fun H' hs hd => ?_)
    · exact ⟨_, rfl, x, p, rfl, px, pg, pl, hR⟩
    · refine ⟨_, D, l.map fun p => S (wr p), rfl, rfl, .inl (SqL.of hd), ?_, _, _, rfl, rfl, ?_, _, _, rfl, rfl, ?_, ?_⟩
      · have := wr_sum l
        rw [s_sp, slen, List.map_map, List.length_map]
        show (l.map fun p => (S (wr p)).length).sum + l.length * 1 ≤ 16777216
        simp only [slen]; omega
      · have := join_len l
        rw [s_op, slen]; exact small_line (by simp; omega)
      · have := join_len l
        rw [app_len, s_op, s_cl, slen [40], slen [41]]; exact small_line (by simp only [List.length_singleton]; omega)
      · show Q (.str (Str.ofString "(" ++ Txt.join (Str.ofString " ") (l.map fun p => S (wr p)) ++ Str.ofString ")")) H'
        rw [text_tup]
        exact k _ hs
end
end Toy

set_option Elab.async false
set_option linter.all false
set_option maxRecDepth 100000
set_option maxHeartbeats 4000000
namespace Toy
open PySem L2 TL
open SX (S)
/-! ### the law's draws: a list of [the script's numbers, a place, a rest, a state] -/
def Dr (H : Hp) (d l : Addr) (ns : List Int) : Prop := ∃ i f g : Int, 0 ≤ i ∧ H d = some (.lst [.ref l, .int i, .int f, .int g]) ∧ H l = some (.lst (ns.map V.int))
theorem Dr.ne {H : Hp} {d l : Addr} {ns : List Int} (h : Dr H d l ns) : l ≠ d := by
  obtain ⟨i, f, g, _, h1, h2⟩ := h
  refine ne_of h2 h1 (fun e => ?_)
  have e' : ns.map V.int = [.ref l, .int i, .int f, .int g] := HO.lst.inj e
  cases ns with
  | nil => cases e'
  | cons a r => cases e'
theorem Dr.same {H H' : Hp} {d l : Addr} {ns : List Int} (h : Dr H d l ns) (s : Same H H') : Dr H' d l ns := by
  obtain ⟨i, f, g, h0, h1, h2⟩ := h
  exact ⟨i, f, g, h0, s _ _ h1, s _ _ h2⟩
theorem Keep.tups {H H' : Hp} {d : Addr} {xs : List V} (hd : H d = some (.lst xs)) (s : Keep d H H') : ∀ b ys, H b = some (.tup ys) → H' b = some (.tup ys) := fun b ys e =>
  s b _ (ne_of e hd (fun z => nomatch z)) e
theorem Dr.tups {H H' : Hp} {d l : Addr} {ns : List Int} (h : Dr H d l ns) (s : Keep d H H') : ∀ b ys, H b = some (.tup ys) → H' b = some (.tup ys) := by
  obtain ⟨i, f, g, _, h1, _⟩ := h
  exact Keep.tups h1 s
def spBegin (K : PySem.W.Frag) : Sp := fun vs H Q _ => ∃ (a : Addr) (ns : List Int), vs = [.ref a] ∧ SqL K H a (ns.map V.int) ∧ ns.length ≤ 63 ∧ ∀ d l ms H', Same H H' → Dr H' d l ms → Q (.ref d) H'
def spDraw : Sp := fun vs H Q _ => ∃ (d l : Addr) (ns : List Int) (m : Int), vs = [.ref d, .int m] ∧ Dr H d l ns ∧ 0 < m ∧ m < 1073741824 ∧ ∀ r H', 0 ≤ r → r < m → Keep d H H' → Dr H' d l ns → Q (.int r) H'
def spPick : Sp := fun vs H Q _ => ∃ (d l r : Addr) (ns : List Int) (xs : List V), vs = [.ref d, .ref r] ∧ Dr H d l ns ∧ r ≠ d ∧ H r = some (.lst xs) ∧ xs ≠ [] ∧ xs.length ≤ 1000 ∧ ∀ x H', x ∈ xs → Keep d H H' → Dr H' d l ns → Q x H'
def spIsInt : Sp := fun vs H Q _ => ∃ i : Int, vs = [.int i] ∧ Q (.bl true) H
def spSame : Nat → Sp
  | 0 => fun _ _ _ _ => False
  | n + 1 => fun vs H Q _ => ∃ v u p, vs = [v, u] ∧ PV H v p ∧ PV H u p ∧ good n p ∧ ∀ H', Same H H' → Q (.bl true) H'
/-- the codes that the law's texts are made of -/
def okc (c : Nat) : Prop := c = 10 ∨ (32 ≤ c ∧ c ≤ 126)
instance (c : Nat) : Decidable (okc c) := inferInstanceAs (Decidable (c = 10 ∨ (32 ≤ c ∧ c ≤ 126)))
def szP : Nat → Nat
  | 0 => 30
  | n + 1 => 3 * szP n + 10
def okP (n : Nat) (p : Paper) : Prop := good n p ∧ (wr p).length ≤ szP n ∧ ∀ c ∈ wr p, okc c
def spPap : Nat → Sp
  | 0 => fun _ _ _ _ => False
  | n + 1 => fun vs H Q _ => ∃ (d l : Addr) (ns : List Int), vs = [.ref d, .int n] ∧ Dr H d l ns ∧ ∀ v p H', PV H' v p → okP n p → Keep d H H' → Dr H' d l ns → Q v H'
section
variable {P : Program} {w : World} {K : PySem.W.Frag} {mg : Str → Option Value} {base : Heap} {CB fB cB dB CR : Addr}
theorem fmod_lo {a m : Int} (h : 0 < m) : 0 ≤ a.fmod m := by rw [Int.fmod_eq_emod_of_nonneg _ (Int.le_of_lt h)]; exact Int.emod_nonneg _ (by omega)
theorem fmod_hi {a m : Int} (h : 0 < m) : a.fmod m < m := by rw [Int.fmod_eq_emod_of_nonneg _ (Int.le_of_lt h)]; exact Int.emod_lt_of_pos _ h
abbrev s_l_begin : Stmt := top 10
theorem sc_l_begin : FnScope ["script", "cell"] ["script"] (defScope s_l_begin) := ⟨rfl, rfl, rfl, by decide +kernel, rfl, by decide +kernel, by decide +kernel⟩

theorem ok_begin {f : Addr} {fd : FuncData} (F : Fun K "_law_begin" "_law_begin" s_l_begin f fd) (T : Txt P K mg CB fB cB dB CR) : FnOk P w K mg base CX0 1 f fd ["script"] (spBegin K) := by
  refine F.ok sc_l_begin (fun vs H Q E h => ?_) (fun cdv A outer s H vs Q E hr h => ?_)
  · obtain ⟨a, ns, rfl, _⟩ := h
    rfl
  obtain ⟨a, ns, rfl, hS, hl, k⟩ := h
  refine ⟨_, (pss_one (ps_ret (pe_lst (pa_cons (pe_lc (own := [("cell", 1)]) (g := gName 1) (by rfl) sc_l_begin.nd (pi_list (pe_slice sl_list (pv 0) po_none (po_some pe_int))) (blkOk_by (own := [("cell", 1)]) (N := ["script", "cell"]) (sc := defScope s_l_begin) (by decide +kernel)) (fun _ _ _ _ _ => pg_name (i := 1) sc_l_begin.nd rfl (Or.inl rfl)) (fun _ _ _ _ _ => pts_nil) (fun _ _ _ _ _ => (pe_callTy call_int1 (by rfl) T.z_int b_int (pa_cons (pv 1) pa_nil)))) (pa_cons pe_int (pa_cons pe_int (pa_cons pe_int pa_nil))))))), ?_⟩
  refine ⟨_, rfl, _, rfl, a, _, rfl, hS, fun c hc => ?_⟩
  obtain ⟨ms, hms, hml⟩ : ∃ ms : List Int, cutV (ns.map V.int) none (some 63) = ms.map V.int ∧ ms.length ≤ 63 := by
    unfold cutV
    rw [← List.map_drop, ← List.map_take]
    refine ⟨_, rfl, ?_⟩
    rw [List.length_take, List.length_drop]
    omega
  refine ⟨c, rfl, ⟨_, SqL.of upd_same⟩, fun D hD => ?_⟩
  have hDc : D ≠ c := fun z => by rw [z, upd_same] at hD; cases hD
  have hD0 : H D = none := by rw [upd_ne hDc] at hD; exact hD
  refine lc_list (K := K) (a := c) (xs := cutV (ns.map V.int) none (some 63)) (fun j H' => Same H H' ∧ H' c = some (.lst (cutV (ns.map V.int) none (some 63))) ∧ H' D = some (.lst ((ms.take j).map V.int)))
    ⟨(Same.upd hc).trans (Same.upd hD), by rw [upd_ne (Ne.symm hDc)]; exact upd_same, upd_same⟩ (fun _ H' _ h => SqL.of h.2.1) (fun j x H' hx h => ?_) (fun H' h => ?_)
  · obtain ⟨hs, hc', hd'⟩ := h
    rw [hms, List.getElem?_map] at hx
    obtain ⟨m, hm, rfl⟩ := Option.map_eq_some_iff.mp hx
    refine ⟨rfl, ?_⟩
    simp only [tYes, if_true]
    refine ⟨_, rfl, .inl ⟨_, rfl, ?_⟩⟩
    refine ⟨_, hd', ?_, ?_, ?_, ?_⟩
    · rw [List.length_map, List.length_take]
      exact small1000 (by omega)
    · intro b o e
      rw [upd_ne (ne_of_none e hD0)]
      exact hs _ _ e
    · rw [upd_ne (Ne.symm hDc)]; exact hc'
    · rw [upd_same, take_more hm, List.map_append]; rfl
  · obtain ⟨hs, hc', hd'⟩ := h
    refine ⟨by show 4 ≤ sizeLine; decide, fun p hp => ?_⟩
    have hDp : D ≠ p := ne_of_none hd' hp
    rw [hms, List.length_map, List.take_length] at hd'
    exact k p D ms _ (hs.trans (Same.upd hp)) ⟨0, 0, 7, Int.le_refl 0, upd_same, by rw [upd_ne hDp]; exact hd'⟩
abbrev s_l_draw : Stmt := top 11
theorem sc_l_draw : FnScope ["d", "many", "found", "size", "cell"] ["d", "many"] (defScope s_l_draw) := ⟨rfl, rfl, rfl, by decide +kernel, rfl, by decide +kernel, by decide +kernel⟩

theorem ok_draw {f : Addr} {fd : FuncData} (F : Fun K "_law_draw" "_law_draw" s_l_draw f fd) (T : Txt P K mg CB fB cB dB CR) : FnOk P w K mg base CX0 1 f fd ["d", "many"] spDraw := by
  refine F.ok sc_l_draw (fun vs H Q E h => ?_) (fun cdv A outer s H vs Q E hr h => ?_)
  · obtain ⟨d, l, ns, m, rfl, _⟩ := h
    rfl
  obtain ⟨d, l, ns, m, rfl, hDr, m0, m1, k⟩ := h
  have hne := hDr.ne
  obtain ⟨i, f, g, i0, hd, hl⟩ := hDr
  have hdm : CDivN f m := ⟨by omega, by omega⟩
  refine ⟨_, (pss_cons (ps_if (pt_cmpR op_gt (pe_ix ix_list (pv 0) pe_int (fun _ _ => rfl)) pe_int (nomark _)) (pss_cons (ps_set (i := 2) sc_l_draw.nd rfl (Or.inl rfl) (pe_ix ix_list (pv 0) pe_int (fun _ _ => rfl)))
    (pss_cons (ps_asg (pe_op op_fdivN (pv 2) (pv 1)) (pg_sub (pv 0) pe_int set_list))
    (pss_one (ps_ret (pe_op op_modN (pe_callTy call_int1 (by rfl) T.z_int b_int (pa_cons (pv 2) pa_nil)) (pv 1)))))) pss_nil)
    (pss_cons (ps_set (i := 3) sc_l_draw.nd rfl (Or.inl rfl) pe_int)
    (C8.pss_cut (ps_if (pt_cmpR op_lt (pe_ix ix_list (pv 0) pe_int (fun _ _ => rfl)) (pe_callB call_len_seq (by rfl) T.z_len b_len (pa_cons (pe_ix ix_list (pv 0) pe_int (fun _ _ => rfl)) pa_nil)) (nomark _)) (pss_cons (ps_set (i := 4) sc_l_draw.nd rfl (Or.inl rfl) (pe_ix ix_list (pe_ix ix_list (pv 0) pe_int (fun _ _ => rfl)) (pe_ix ix_list (pv 0) pe_int (fun _ _ => rfl)) (fun _ _ => rfl)))
    (pss_one (ps_set (i := 3) sc_l_draw.nd rfl (Or.inl rfl) (pe_op op_add (pe_op op_mul pe_int (pe_callB call_abs (by rfl) T.z_abs b_abs (pa_cons (pv 4) pa_nil))) (pe_callTy call_int1 (by rfl) T.z_int b_int (pa_cons (pe_cmpR op_lt (pv 4) pe_int (nomark _)) pa_nil)))))) pss_nil)
    (pss_cons (ps_augS (pv 0) pe_int get_list pe_int ip_add set_list)
    (pss_cons (ps_if (pt_cmpR op_ge (pv 3) (pe_op op_mul pe_int (pe_op op_pow pe_int pe_int)) (nomark _)) (pss_cons (ps_set (i := 2) sc_l_draw.nd rfl (Or.inl rfl) (pe_op op_modN (pe_callTy call_int1 (by rfl) T.z_int b_int (pa_cons (pe_op op_fdivN (pv 3) pe_int) pa_nil)) (pe_op op_shl pe_int pe_int)))
    (pss_cons (ps_asg (pe_op op_fdivN (pv 2) (pv 1)) (pg_sub (pv 0) pe_int set_list))
    (pss_one (ps_ret (pe_op op_modN (pe_callTy call_int1 (by rfl) T.z_int b_int (pa_cons (pv 2) pa_nil)) (pv 1)))))) pss_nil)
    (pss_cons (ps_asg (pe_op op_modN (pe_callTy call_int1 (by rfl) T.z_int b_int (pa_cons (pe_op op_add (pe_op op_add (pe_op op_add (pe_op op_mul (pe_ix ix_list (pv 0) pe_int (fun _ _ => rfl)) pe_int) (pe_op op_mul (pe_op op_modN (pe_callTy call_int1 (by rfl) T.z_int b_int (pa_cons (pv 3) pa_nil)) pe_int) pe_int)) (pe_op op_mul (pe_ix ix_list (pv 0) pe_int (fun _ _ => rfl)) pe_int)) pe_int) pa_nil)) pe_int) (pg_sub (pv 0) pe_int set_list))
    (pss_one (ps_ret (pe_op op_modN (pe_callTy call_int1 (by rfl) T.z_int b_int (pa_cons (pe_op op_fdivN (pe_ix ix_list (pv 0) pe_int (fun _ _ => rfl)) pe_int) pa_nil)) (pv 1)))))))))), ?_⟩
  refine ⟨_, rfl, d, _, 2, _, rfl, rfl, SqL.of hd, rfl, _, _, rfl, rfl, _, rfl, ite2 (fun _ => ?_) (fun _ => ?_)⟩
  · refine ⟨_, rfl, d, _, 2, _, rfl, rfl, SqL.of hd, rfl, ?_⟩
    refine ⟨_, rfl, _, rfl, _, _, rfl, rfl, ⟨by omega, by omega⟩, _, rfl, d, _, 2, 2, rfl, rfl, hd, rfl, ?_⟩
    refine ⟨_, rfl, .inl ⟨_, rfl, _, rfl, _, _, rfl, rfl, by omega, ?_⟩⟩
    exact k _ _ (fmod_lo m0) (fmod_hi m0) Keep.upd ⟨i, _, g, i0, upd_same, by rw [upd_ne hne]; exact hl⟩
  · refine ⟨fun σ' H' => (∃ sz c, σ' = [some (.ref d), some (.int m), none, some (.int sz), c]) ∧ H' = H, ?_, ?_⟩
    · refine ⟨_, rfl, d, _, 1, _, rfl, rfl, SqL.of hd, rfl, _, rfl, d, _, 0, _, rfl, rfl, SqL.of hd, rfl, l, _, rfl, .inl (SqL.of hl), _, _, rfl, rfl, _, rfl, ite2 (fun c => ?_) (fun _ => ⟨⟨_, _, rfl⟩, rfl⟩)⟩
      have c' : i < (((ns.map V.int).length : Nat) : Int) := of_decide_eq_true c
      rw [List.length_map] at c'
      obtain ⟨v, hv⟩ : ∃ v : Int, atI (ns.map V.int) i = some (.int v) := by
        have hi : i.toNat < ns.length := by omega
        refine ⟨ns[i.toNat], ?_⟩
        have q : atI (ns.map V.int) ((i.toNat : Nat) : Int) = some (.int ns[i.toNat]) := atI_nat (by rw [List.getElem?_map, List.getElem?_eq_getElem hi]; rfl)
        rw [show ((i.toNat : Nat) : Int) = i by omega] at q
        exact q
      refine ⟨_, rfl, d, _, 0, _, rfl, rfl, SqL.of hd, rfl, _, rfl, d, _, 1, _, rfl, rfl, SqL.of hd, rfl, l, _, i, _, rfl, rfl, SqL.of hl, hv, ?_⟩
      refine ⟨_, rfl, _, rfl, _, _, rfl, rfl, .inl (by decide), _, rfl, _, _, rfl, rfl, ?_⟩
      refine .inr ⟨_, rfl, _, _, rfl, rfl, ⟨_, _, rfl⟩, rfl⟩
    · rintro σ' H' ⟨⟨sz, c, rfl⟩, rfl⟩
      have hd1 := hd
      refine ⟨_, rfl, d, _, 1, _, rfl, rfl, SqL.of hd, by decide, rfl, _, _, rfl, rfl, d, _, 1, 1, rfl, rfl, hd, rfl, ?_⟩
      have hd2 : upd H' d (HO.lst [.ref l, .int (i + 1), .int f, .int g]) d = some (.lst [.ref l, .int (i + 1), .int f, .int g]) := upd_same
      have hl2 : upd H' d (HO.lst [.ref l, .int (i + 1), .int f, .int g]) l = some (.lst (ns.map V.int)) := by rw [upd_ne hne]; exact hl
      have k2 : Keep d H' (upd H' d (HO.lst [.ref l, .int (i + 1), .int f, .int g])) := Keep.upd
      refine ⟨_, rfl, _, _, rfl, rfl, ⟨by decide, by decide, by decide⟩, _, _, rfl, rfl, .inl (by decide), _, _, rfl, rfl, _, rfl, ite2 (fun _ => ?_) (fun _ => ?_)⟩
      · refine ⟨_, rfl, _, _, rfl, rfl, ⟨by decide, by decide⟩, .inl ⟨_, rfl, _, _, rfl, rfl, ⟨by decide, by decide, by decide⟩, _, _, rfl, rfl, ?_, ?_⟩⟩
        · show (1 : Int) * 2 ^ (6000 : Int).toNat ≠ 0
          rw [Int.one_mul]
          exact Int.ne_of_gt (Int.pow_pos (by decide))
        refine ⟨_, rfl, _, rfl, _, _, rfl, rfl, ⟨by omega, by omega⟩, _, rfl, d, _, 2, 2, rfl, rfl, hd2, rfl, ?_⟩
        refine ⟨_, rfl, .inl ⟨_, rfl, _, rfl, _, _, rfl, rfl, by omega, ?_⟩⟩
        exact k _ _ (fmod_lo m0) (fmod_hi m0) (k2.trans Keep.upd) ⟨i + 1, _, g, by omega, upd_same, by rw [upd_ne hne]; exact hl2⟩
      · refine ⟨_, rfl, d, _, 3, _, rfl, rfl, SqL.of hd2, rfl, _, _, rfl, rfl, .inr (by decide), _, rfl, .inl ⟨_, rfl, _, _, rfl, rfl, (show (2147483629 : Int) ≠ 0 by decide), _, _, rfl, rfl, .inr (by decide), _, _, rfl, rfl, ?_⟩⟩
        refine ⟨_, rfl, d, _, 1, _, rfl, rfl, SqL.of hd2, rfl, _, _, rfl, rfl, .inr (by decide), _, _, rfl, rfl, _, _, rfl, rfl, ?_⟩
        refine .inl ⟨_, rfl, _, _, rfl, rfl, (show (2147483647 : Int) ≠ 0 by decide), _, rfl, d, _, 3, 3, rfl, rfl, hd2, rfl, ?_⟩
        have hd3 : ∀ x : V, upd (upd H' d (HO.lst [.ref l, .int (i + 1), .int f, .int g])) d (HO.lst [.ref l, .int (i + 1), .int f, x]) d = some (HO.lst [.ref l, .int (i + 1), .int f, x]) := fun x => upd_same
        refine ⟨_, rfl, d, _, 3, _, rfl, rfl, SqL.of (hd3 _), rfl, _, _, rfl, rfl, ⟨by decide, by decide⟩, .inl ⟨_, rfl, _, rfl, _, _, rfl, rfl, by omega, ?_⟩⟩
        exact k _ _ (fmod_lo m0) (fmod_hi m0) (k2.trans Keep.upd) ⟨i + 1, f, _, by omega, upd_same, by rw [upd_ne hne]; exact hl2⟩
abbrev s_l_pick : Stmt := top 12
theorem sc_l_pick : FnScope ["d", "row"] ["d", "row"] (defScope s_l_pick) := ⟨rfl, rfl, rfl, by decide +kernel, rfl, by decide +kernel, by decide +kernel⟩

theorem ok_pick {f : Addr} {fd : FuncData} (F : Fun K "_law_pick" "_law_pick" s_l_pick f fd) (T : Txt P K mg CB fB cB dB CR) (C__law_draw : CalX P w K mg base CX0 1 "_law_draw" spDraw) : FnOk P w K mg base CX0 2 f fd ["d", "row"] spPick := by
  refine F.ok sc_l_pick (fun vs H Q E h => ?_) (fun cdv A outer s H vs Q E hr h => ?_)
  · obtain ⟨d, l, r, ns, xs, rfl, _⟩ := h
    rfl
  obtain ⟨d, l, r, ns, xs, rfl, hDr, hrd, hR, hne, hlen, k⟩ := h
  have hpos : 0 < xs.length := List.length_pos_iff.mpr hne
  refine ⟨_, (pss_one (ps_ret (pe_ix ix_list (pv 1) (pe_u C__law_draw hr (by omega) pass0 (pa_cons (pv 0) (pa_cons (pe_callB call_len_seq (by rfl) T.z_len b_len (pa_cons (pv 1) pa_nil)) pa_nil))) (fun _ _ => rfl)))), ?_⟩
  refine ⟨_, rfl, _, rfl, _, rfl, r, _, rfl, .inl (SqL.of hR), d, l, ns, _, rfl, hDr, by omega, by omega, fun j H' j0 j1 kp hDr' => ?_⟩
  have hj : j.toNat < xs.length := by omega
  have hR' := kp _ _ hrd hR
  have q : atI xs ((j.toNat : Nat) : Int) = some xs[j.toNat] := atI_nat (List.getElem?_eq_getElem hj)
  rw [show ((j.toNat : Nat) : Int) = j by omega] at q
  exact ⟨r, xs, j, _, rfl, rfl, SqL.of hR', q, k _ _ (List.getElem_mem hj) kp hDr'⟩
abbrev s_l_is_int : Stmt := top 13
theorem sc_l_is_int : FnScope ["thing"] ["thing"] (defScope s_l_is_int) := ⟨rfl, rfl, rfl, by decide +kernel, rfl, by decide +kernel, by decide +kernel⟩

theorem ok_is_int {f : Addr} {fd : FuncData} (F : Fun K "_law_is_int" "_law_is_int" s_l_is_int f fd) (T : Txt P K mg CB fB cB dB CR) : FnOk P w K mg base CX0 1 f fd ["thing"] spIsInt := by
  refine F.ok sc_l_is_int (fun vs H Q E h => ?_) (fun cdv A outer s H vs Q E hr h => ?_)
  · obtain ⟨i, rfl, _⟩ := h
    rfl
  obtain ⟨i, rfl, k⟩ := h
  refine ⟨_, (pss_one (ps_ret (pe_and (pe_callB call_isi2 (by rfl) T.z_isinstance b_isinstance (pa_cons (pv 0) (pa_cons (pe_bltn (v := .ty "int") (by rfl) T.z_int b_int rfl) pa_nil))) (pe_one (pe_not (pe_callB call_isi2 (by rfl) T.z_isinstance b_isinstance (pa_cons (pv 0) (pa_cons (pe_bltn (v := .ty "bool") (by rfl) T.z_bool b_bool rfl) pa_nil)))))))), ?_⟩
  refine ⟨_, rfl, _, _, _, true, rfl, .base (.int i), by decide +kernel, _, rfl, ifT rfl ?_⟩
  exact ⟨_, rfl, _, _, _, false, rfl, .base (.int i), by decide +kernel, _, rfl, k⟩
abbrev s_l_same : Stmt := top 14
theorem sc_l_same : FnScope ["one", "other", "k"] ["one", "other"] (defScope s_l_same) := ⟨rfl, rfl, rfl, by decide +kernel, rfl, by decide +kernel, by decide +kernel⟩

theorem ok_same {n : Nat} {f : Addr} {fd : FuncData} (F : Fun K "_law_same" "_law_same" s_l_same f fd) (T : Txt P K mg CB fB cB dB CR) (C__law_is_int : CalX P w K mg base CX0 1 "_law_is_int" spIsInt) (C__law_same : CalX P w K mg base CX0 (n + 1) "_law_same" (spSame n)) :
    FnOk P w K mg base CX0 (n + 2) f fd ["one", "other"] (spSame (n + 1)) := by
  refine F.ok sc_l_same (fun vs H Q E h => ?_) (fun cdv A outer s H vs Q E hr h => ?_)
  · obtain ⟨v, u, p, rfl, _⟩ := h
    rfl
  obtain ⟨v, u, p, rfl, hv, hu, hg, k⟩ := h
  have hr : Room (n + 1) _ := hr
  refine ⟨_, (pss_cons (ps_if (pt_val (pe_callB call_isi2 (by rfl) T.z_isinstance b_isinstance (pa_cons (pv 0) (pa_cons (pe_bltn (v := .ty "tuple") (by rfl) T.z_tuple b_tuple rfl) pa_nil)))) (pss_cons (ps_if (PW.pt (pw_or (pt_not (pt_val (pe_callB call_isi2 (by rfl) T.z_isinstance b_isinstance (pa_cons (pv 1) (pa_cons (pe_bltn (v := .ty "tuple") (by rfl) T.z_tuple b_tuple rfl) pa_nil))))) (pw_or1 (pt_cmpR op_ne (pe_callB call_len_seq (by rfl) T.z_len b_len (pa_cons (pv 0) pa_nil)) (pe_callB call_len_seq (by rfl) T.z_len b_len (pa_cons (pv 1) pa_nil)) (nomark _))))) (pss_one (ps_ret pe_bl)) pss_nil)
    (pss_one (ps_ret (pe_cmpR op_eq (pe_callB call_len_seq (by rfl) T.z_len b_len (pa_cons (pe_lc (own := [("k", 2)]) (g := gName 2) (by rfl) sc_l_same.nd (pi_range1 (by rfl) T.z_range (pa_cons (pe_callB call_len_seq (by rfl) T.z_len b_len (pa_cons (pv 0) pa_nil)) pa_nil)) (blkOk_by (own := [("k", 2)]) (N := ["one", "other", "k"]) (sc := defScope s_l_same) (by decide +kernel)) (fun _ _ _ _ _ => pg_name (i := 2) sc_l_same.nd rfl (Or.inl rfl)) (fun _ _ _ _ _ => pts_one (pt_not (pt_val (pe_u C__law_same hr (by omega) pass0 (pa_cons (pe_ix (ixK_tup K rfl) (pv 0) (pv 2) (fun _ _ => rfl)) (pa_cons (pe_ix (ixK_tup K rfl) (pv 1) (pv 2) (fun _ _ => rfl)) pa_nil)))))) (fun _ _ _ _ _ => (pv 2))) pa_nil)) pe_int (nomark _))))) pss_nil)
    (pss_cons (ps_if (PW.pt (pw_or (pt_val (pe_callB call_isi2 (by rfl) T.z_isinstance b_isinstance (pa_cons (pv 0) (pa_cons (pe_bltn (v := .ty "bool") (by rfl) T.z_bool b_bool rfl) pa_nil)))) (pw_or (pt_cmpR op_isN (pv 0) pe_non (nomark _)) (pw_or1 (pt_val (pe_callB call_isi2 (by rfl) T.z_isinstance b_isinstance (pa_cons (pv 0) (pa_cons (pe_bltn (v := .ty "str") (by rfl) T.z_str b_str rfl) pa_nil)))))))) (pss_one (ps_ret (pe_and (pe_cmpR op_eq (pe_callB call_isi2 (by rfl) T.z_isinstance b_isinstance (pa_cons (pv 0) (pa_cons (pe_bltn (v := .ty "bool") (by rfl) T.z_bool b_bool rfl) pa_nil))) (pe_callB call_isi2 (by rfl) T.z_isinstance b_isinstance (pa_cons (pv 1) (pa_cons (pe_bltn (v := .ty "bool") (by rfl) T.z_bool b_bool rfl) pa_nil))) (nomark _)) (pe_one (pe_cmpR op_eq (pv 0) (pv 1) (nomark _)))))) pss_nil)
    (pss_one (ps_ret (pe_and (pe_u C__law_is_int hr (by omega) pass0 (pa_cons (pv 0) pa_nil)) (pe_and (pe_u C__law_is_int hr (by omega) pass0 (pa_cons (pv 1) pa_nil)) (pe_one (pe_cmpR op_eq (pv 0) (pv 1) (nomark _))))))))), ?_⟩
  cases hv with
  | non =>
    cases hu
    refine ⟨_, rfl, _, _, _, false, rfl, .base .non, by decide +kernel, _, rfl, ifF Bool.false_ne_true ?_⟩
    refine ⟨_, rfl, _, _, _, false, rfl, .base .non, by decide +kernel, _, rfl, ifF Bool.false_ne_true ?_⟩
    refine ⟨_, rfl, rfl, _, rfl, ifT rfl (ifT rfl ?_)⟩
    refine ⟨_, rfl, _, _, _, false, rfl, .base .non, by decide +kernel, ?_⟩
    refine ⟨_, rfl, _, _, _, false, rfl, .base .non, by decide +kernel, rfl, _, rfl, ifT rfl ?_⟩
    exact ⟨_, rfl, _, rfl, rfl, k _ (Same.refl _)⟩
  | int i =>
    cases hu
    refine ⟨_, rfl, _, _, _, false, rfl, .base (.int i), by decide +kernel, _, rfl, ifF Bool.false_ne_true ?_⟩
    refine ⟨_, rfl, _, _, _, false, rfl, .base (.int i), by decide +kernel, _, rfl, ifF Bool.false_ne_true ?_⟩
    refine ⟨_, rfl, rfl, _, rfl, ifF (by simp) ?_⟩
    refine ⟨_, rfl, _, _, _, false, rfl, .base (.int i), by decide +kernel, _, rfl, ifF Bool.false_ne_true ?_⟩
    refine ⟨_, rfl, i, rfl, _, rfl, ifT rfl ⟨_, rfl, i, rfl, _, rfl, ifT rfl ⟨_, rfl, _, rfl, rfl, ?_⟩⟩⟩
    show Q (.bl (decide (V.int i = V.int i))) H
    rw [decide_eq_true rfl]
    exact k _ (Same.refl _)
  | str z =>
    cases hu
    refine ⟨_, rfl, _, _, _, false, rfl, .base (.str _), by decide +kernel, _, rfl, ifF Bool.false_ne_true ?_⟩
    refine ⟨_, rfl, _, _, _, false, rfl, .base (.str _), by decide +kernel, _, rfl, ifF Bool.false_ne_true ?_⟩
    refine ⟨_, rfl, rfl, _, rfl, ifF (by simp) ?_⟩
    refine ⟨_, rfl, _, _, _, true, rfl, .base (.str _), by decide +kernel, _, rfl, ifT rfl ?_⟩
    refine ⟨_, rfl, _, _, _, false, rfl, .base (.str _), by decide +kernel, ?_⟩
    refine ⟨_, rfl, _, _, _, false, rfl, .base (.str _), by decide +kernel, rfl, _, rfl, ifT rfl ⟨_, rfl, _, rfl, rfl, ?_⟩⟩
    show Q (.bl (decide (V.str (S z) = V.str (S z)))) H
    rw [decide_eq_true rfl]
    exact k _ (Same.refl _)
  | @tup a vs l ha hz hvs =>
    cases hu with
    | @tup b us _ hb hzb hus =>
    obtain ⟨m, rfl, hgs⟩ := good_tup hg
    have e1 : vs.length = l.length := hvs.length
    have e2 : us.length = l.length := hus.length
    refine ⟨_, rfl, _, _, _, true, rfl, .base (.tup ha), by decide +kernel, _, rfl, ifT rfl ?_⟩
    refine ⟨_, rfl, _, _, _, true, rfl, .base (.tup hb), by decide +kernel, _, rfl, ifF (by decide) ?_⟩
    refine ⟨_, rfl, a, _, rfl, .inr (SqT.of ha), _, rfl, b, _, rfl, .inr (SqT.of hb), rfl, _, rfl, ifF (by rw [e1, e2]; simp) ?_⟩
    refine ⟨_, rfl, a, _, rfl, .inr (SqT.of ha), _, rfl, by omega, by omega, fun D hD => ?_⟩
    refine lc_range (lo := 0) (n := ((vs.length : Nat) : Int).toNat) (fun j H' => Same H H' ∧ H' D = some (.lst [])) ⟨Same.upd hD, upd_same⟩ (fun j H' hj h => ?_) (fun H' h => ?_)
    · obtain ⟨hs, hd⟩ := h
      have hj' : j < l.length := by omega
      refine ⟨rfl, ?_⟩
      have a1 : atI vs (0 + (j : Int)) = some vs[j] := by rw [Int.zero_add]; exact atI_nat (List.getElem?_eq_getElem (by omega))
      have a2 : atI us (0 + (j : Int)) = some us[j] := by rw [Int.zero_add]; exact atI_nat (List.getElem?_eq_getElem (by omega))
      obtain ⟨p1, q1, r1⟩ := hvs.get (i := j) (List.getElem?_eq_getElem (by omega))
      obtain ⟨p2, q2, r2⟩ := hus.get (i := j) (List.getElem?_eq_getElem (by omega))
      have ep : p1 = p2 := Option.some.inj (q1.symm.trans q2)
      subst ep
      refine ⟨_, rfl, _, rfl, a, vs, _, _, rfl, rfl, SqT.of (hs _ _ ha), a1, _, rfl, _, rfl, b, us, _, _, rfl, rfl, SqT.of (hs _ _ hb), a2, _, _, p1, rfl, r1.same hs, r2.same hs, goods_get hgs q1, fun H2 s2 => ⟨_, rfl, ?_⟩⟩
      refine ifF (by decide) ⟨hs.trans s2, s2 _ _ hd⟩
    · obtain ⟨hs, hd⟩ := h
      refine ⟨D, [], rfl, .inl (SqL.of hd), rfl, ?_⟩
      exact k _ hs
end
end Toy

set_option Elab.async false
set_option linter.all false
set_option maxRecDepth 100000
set_option maxHeartbeats 4000000
namespace Toy
open PySem L2 TL
open SX (S)
theorem upd_tups {H : Hp} {D : Addr} {xs ys : List V} (h : H D = some (.lst xs)) : ∀ b zs, H b = some (.tup zs) → upd H D (.lst ys) b = some (.tup zs) := fun b zs e => by
  rw [upd_ne (ne_of e h (fun z => nomatch z))]
  exact e
theorem wrt_bound {m : Nat} : ∀ {ps : List Paper}, (∀ p ∈ ps, (wr p).length ≤ m) → (wrt ps).length ≤ ps.length * (m + 1)
  | [], _ => by simp [wrt]
  | a :: r, h => by
    have h1 := h a List.mem_cons_self
    have h2 := wrt_bound (ps := r) fun p hp => h p (List.mem_cons_of_mem _ hp)
    have e : (a :: r).length * (m + 1) = r.length * (m + 1) + (m + 1) := by rw [List.length_cons, Nat.succ_mul]
    rw [e]
    simp only [wrt, List.length_cons, List.length_append]; omega
theorem wr_bound {m : Nat} {ps : List Paper} (h : ∀ p ∈ ps, (wr p).length ≤ m) (hl : ps.length ≤ 3) : (wr (.tup ps)).length ≤ 3 * m + 10 := by
  cases ps with
  | nil => simp [wr, wrs]
  | cons a r =>
    have h1 := wrt_bound h
    have h2 : (a :: r).length * (m + 1) ≤ 3 * (m + 1) := Nat.mul_le_mul_right _ hl
    have e : wrt (a :: r) = 32 :: wrs (a :: r) := by simp [wrt, wrs]
    rw [e, List.length_cons] at h1
    simp only [wr, List.length_cons, List.length_append, List.length_nil]; omega
theorem wrt_okc : ∀ {ps : List Paper}, (∀ p ∈ ps, ∀ c ∈ wr p, okc c) → ∀ c ∈ wrt ps, okc c
  | [], _, c, hc => by simp [wrt] at hc
  | a :: r, h, c, hc => by
    simp only [wrt, List.mem_cons, List.mem_append] at hc
    rcases hc with rfl | hc | hc
    · decide
    · exact h a List.mem_cons_self c hc
    · exact wrt_okc (fun p hp => h p (List.mem_cons_of_mem _ hp)) c hc
theorem wr_okc {ps : List Paper} (h : ∀ p ∈ ps, ∀ c ∈ wr p, okc c) : ∀ c ∈ wr (.tup ps), okc c := by
  intro c hc
  simp only [wr, List.mem_cons, List.mem_append, List.not_mem_nil, or_false] at hc
  rcases hc with rfl | hc | rfl
  · decide
  · cases ps with
    | nil => simp [wrs] at hc
    | cons a r =>
      refine wrt_okc h c ?_
      simp only [wrs, List.mem_append] at hc
      simp only [wrt, List.mem_cons, List.mem_append]
      exact .inr hc
  · decide
theorem goods_of {k : Nat} : ∀ {ps : List Paper}, (∀ p ∈ ps, good k p) → goods k ps
  | [], _ => by unfold goods; trivial
  | a :: r, h => by
    unfold goods
    exact ⟨h a List.mem_cons_self, goods_of fun p hp => h p (List.mem_cons_of_mem _ hp)⟩
theorem okP_tup {m : Nat} {ps : List Paper} (h : ∀ p ∈ ps, okP m p) (hl : ps.length ≤ 3) : okP (m + 1) (.tup ps) :=
  ⟨by unfold good; exact goods_of fun p hp => (h p hp).1, wr_bound (fun p hp => (h p hp).2.1) hl, wr_okc fun p hp => (h p hp).2.2⟩
theorem szP_lo : ∀ n, 30 ≤ szP n
  | 0 => Nat.le_refl _
  | n + 1 => by
    have := szP_lo n
    simp only [szP]; omega
theorem okP_non (n : Nat) : okP n .non := ⟨by unfold good; trivial, by have := szP_lo n; simp [wr]; omega, by simp [wr, okc]⟩
theorem okP_str (n : Nat) {s : List Nat} (h : ∀ c ∈ s, okc c ∧ c ≠ 34) (hl : s.length ≤ 10) : okP n (.str s) :=
  ⟨by unfold good; exact fun z => (h 34 z).2 rfl, by have := szP_lo n; simp [wr]; omega, by
    intro c hc
    simp only [wr, List.mem_cons, List.mem_append, List.not_mem_nil, or_false] at hc
    rcases hc with rfl | hc | rfl
    · decide
    · exact (h c hc).1
    · decide⟩
theorem numL_okc (n : Nat) : ∀ c ∈ numL n, okc c := fun c hc => by
  have := numL_digits n c hc
  exact .inr ⟨by omega, by omega⟩
theorem okP_int (n : Nat) {i : Int} (h : i.natAbs < 10 ^ 20) : okP n (.int i) := by
  have hl : (numL i.natAbs).length ≤ 20 := numL_len (by decide) h
  refine ⟨by unfold good; exact h, ?_, ?_⟩
  · have := szP_lo n
    unfold wr
    split
    · simp only [List.length_cons]; omega
    · omega
  · intro c hc
    unfold wr at hc
    split at hc
    · simp only [List.mem_cons] at hc
      rcases hc with rfl | hc
      · decide
      · exact numL_okc _ c hc
    · exact numL_okc _ c hc
def signs : Str := Str.ofString "ab {};.()-0 9~!#$&'*+,/:<=>?\x40[]^_|" ++ Str.ofString "\n" ++ Str.ofString "none"
theorem signs_ok : ∀ c ∈ signs.cps.toList, okc c ∧ c ≠ 34 := by decide +kernel
theorem signs_ne : ones signs.cps.toList ≠ [] := by decide +kernel
theorem signs_len : (ones signs.cps.toList).length ≤ 1000 := by decide +kernel
theorem signs_size : signs.length ≤ sizeLine := small_line (by decide +kernel)
theorem ones_mem {l : List Nat} {x : V} (h : x ∈ ones l) : ∃ c ∈ l, x = .str (S [c]) := by
  unfold ones at h
  obtain ⟨c, hc, rfl⟩ := List.mem_map.mp h
  exact ⟨c, hc, rfl⟩
theorem ones_join (cs : List Nat) : Txt.join (S []) ((cs.map fun c => [c]).map S) = S cs := by
  rw [SX.join_S]
  congr 1
  induction cs with
  | nil => rfl
  | cons c r ih =>
    cases r with
    | nil => rfl
    | cons a r => simp only [List.map_cons, joinL] at ih ⊢; rw [ih]; rfl
theorem ones_eq (cs : List Nat) : ones cs = ((cs.map fun c => [c]).map S).map V.str := by unfold ones; rw [List.map_map, List.map_map]; rfl
theorem ones_len (cs : List Nat) : (((cs.map fun c => [c]).map S).map (·.length)).sum = cs.length := by
  induction cs with
  | nil => rfl
  | cons c r ih =>
    simp only [List.map_cons, List.sum_cons, List.length_cons] at ih ⊢
    rw [ih, slen]; simp; omega
theorem Dr.new_ne {H : Hp} {d l D : Addr} {ns : List Int} (h : Dr H d l ns) (hD : H D = none) : D ≠ d ∧ D ≠ l := by
  obtain ⟨_, _, _, _, e1, e2⟩ := h
  exact ⟨fun z => by (rw [z, e1] at hD; cases hD), fun z => by (rw [z, e2] at hD; cases hD)⟩
theorem Dr.upd {H : Hp} {d l D : Addr} {ns : List Int} {o : HO} (h : Dr H d l ns) (h1 : D ≠ d) (h2 : D ≠ l) : Dr (L2.upd H D o) d l ns := by
  obtain ⟨i, f, g, h0, e1, e2⟩ := h
  exact ⟨i, f, g, h0, by rw [upd_ne (Ne.symm h1)]; exact e1, by rw [upd_ne (Ne.symm h2)]; exact e2⟩
theorem keep_updN {d D : Addr} {H H' : Hp} {o : HO} (h : Keep d H H') (hD : H D = none) : Keep d H (L2.upd H' D o) := fun b u n e => by
  rw [upd_ne (ne_of_none e hD)]
  exact h b u n e
section
variable {P : Program} {w : World} {K : PySem.W.Frag} {mg : Str → Option Value} {base : Heap} {CB fB cB dB CR : Addr}
abbrev s_l_paper : Stmt := top 15
theorem sc_l_paper : FnScope ["d", "depth", "way", "signs", "number", "k"] ["d", "depth"] (defScope s_l_paper) := ⟨rfl, rfl, rfl, by decide +kernel, rfl, by decide +kernel, by decide +kernel⟩

theorem ok_paper {n : Nat} {f : Addr} {fd : FuncData} (F : Fun K "_law_paper" "_law_paper" s_l_paper f fd) (T : Txt P K mg CB fB cB dB CR) (C__law_draw : CalX P w K mg base CX0 1 "_law_draw" spDraw) (C__law_pick : CalX P w K mg base CX0 2 "_law_pick" spPick)
    (C__law_paper : CalX P w K mg base CX0 (n + 2) "_law_paper" (spPap n)) : FnOk P w K mg base CX0 (n + 3) f fd ["d", "depth"] (spPap (n + 1)) := by
  refine F.ok sc_l_paper (fun vs H Q E h => ?_) (fun cdv A outer s H vs Q E hr h => ?_)
  · obtain ⟨d, l, ns, rfl, _⟩ := h
    rfl
  obtain ⟨d, l, ns, rfl, hDr, k⟩ := h
  have hr : Room (n + 2) _ := hr
  refine ⟨_, (pss_cons (ps_set (i := 2) sc_l_paper.nd rfl (Or.inl rfl) (pe_u C__law_draw hr (by omega) pass0 (pa_cons (pv 0) (pa_cons pe_int pa_nil))))
    (C8.pss_cut (ps_if (PW.pt (pw_and (pt_cmpR op_lt (pv 2) pe_int (nomark _)) (pw_and1 (pt_cmpR op_gt (pv 1) pe_int (nomark _))))) (pss_one (ps_ret (pe_callTy call_tuple_of (by rfl) T.z_tuple b_tuple (pa_cons (pe_lc (own := [("k", 5)]) (g := gName 5) (by rfl) sc_l_paper.nd (pi_range1 (by rfl) T.z_range (pa_cons (pe_u C__law_draw hr (by omega) pass0 (pa_cons (pv 0) (pa_cons pe_int pa_nil))) pa_nil)) (blkOk_by (own := [("k", 5)]) (N := ["d", "depth", "way", "signs", "number", "k"]) (sc := defScope s_l_paper) (by decide +kernel)) (fun _ _ _ _ _ => pg_name (i := 5) sc_l_paper.nd rfl (Or.inl rfl)) (fun _ _ _ _ _ => pts_nil) (fun _ _ _ _ _ => (pe_u C__law_paper hr (by omega) pass0 (pa_cons (pv 0) (pa_cons (pe_op op_sub (pv 1) pe_int) pa_nil))))) pa_nil)))) pss_nil)
    (pss_cons (ps_if (pt_cmpR op_eq (pv 2) pe_int (nomark _)) (pss_one (ps_ret pe_non)) pss_nil)
    (pss_cons (ps_if (pt_cmpR op_eq (pv 2) pe_int (nomark _)) (pss_cons (ps_set (i := 3) sc_l_paper.nd rfl (Or.inr rfl) (pe_op op_add_str (pe_op op_add_str pe_str pe_str) pe_str))
    (pss_one (ps_ret (pe_join pe_str (pe_lc (own := [("k", 5)]) (g := gName 5) (by rfl) sc_l_paper.nd (pi_range1 (by rfl) T.z_range (pa_cons (pe_u C__law_draw hr (by omega) pass0 (pa_cons (pv 0) (pa_cons pe_int pa_nil))) pa_nil)) (blkOk_by (own := [("k", 5)]) (N := ["d", "depth", "way", "signs", "number", "k"]) (sc := defScope s_l_paper) (by decide +kernel)) (fun _ _ _ _ _ => pg_name (i := 5) sc_l_paper.nd rfl (Or.inl rfl)) (fun _ _ _ _ _ => pts_nil) (fun _ _ _ _ _ => (pe_u C__law_pick hr (by omega) pass0 (pa_cons (pv 0) (pa_cons (pe_callTy (call_list_str rfl) (by rfl) T.z_list b_list (pa_cons (pv 3) pa_nil)) pa_nil))))))))) pss_nil)
    (pss_cons (ps_set (i := 4) sc_l_paper.nd rfl (Or.inl rfl) (pe_u C__law_pick hr (by omega) pass0 (pa_cons (pv 0) (pa_cons (pe_lst (pa_cons (pe_u C__law_draw hr (by omega) pass0 (pa_cons (pv 0) (pa_cons pe_int pa_nil))) (pa_cons (pe_u C__law_draw hr (by omega) pass0 (pa_cons (pv 0) (pa_cons pe_int pa_nil))) (pa_cons (pe_op op_sub (pe_op op_sub (pe_op op_pow pe_int pe_int) pe_int) (pe_u C__law_draw hr (by omega) pass0 (pa_cons (pv 0) (pa_cons pe_int pa_nil)))) pa_nil)))) pa_nil))))
    (pss_one (ps_ret (pe_op op_mul (pv 4) (pe_op op_sub pe_int (pe_op op_mul pe_int (pe_u C__law_draw hr (by omega) pass0 (pa_cons (pv 0) (pa_cons pe_int pa_nil))))))))))))), ?_⟩
  refine ⟨_, rfl, d, l, ns, _, rfl, hDr, by decide, by decide, fun r H1 r0 r1 k1 D1 => ?_⟩
  refine ⟨fun σ' H' => σ' = [some (.ref d), some (.int n), some (.int r), none, none, none] ∧ H' = H1, ?_, ?_⟩
  · refine ⟨_, rfl, _, _, rfl, rfl, _, rfl, ite2 (fun c1 => ?_) (fun _ => ifF Bool.false_ne_true ⟨rfl, rfl⟩)⟩
    refine ⟨_, rfl, _, _, rfl, rfl, _, rfl, ite2 (fun c2 => ?_) (fun _ => ⟨rfl, rfl⟩)⟩
    have hn : (0 : Int) < (n : Int) := of_decide_eq_true c2
    obtain ⟨m, rfl⟩ : ∃ m, n = m + 1 := ⟨n - 1, by omega⟩
    refine ⟨_, rfl, d, l, ns, _, rfl, D1, by decide, by decide, fun j H2 j0 j1 k2 D2 => ⟨_, rfl, by omega, by omega, fun D hD => ?_⟩⟩
    obtain ⟨hDd, hDl⟩ := D2.new_ne hD
    have hj : (j.toNat : Int) = j := Int.toNat_of_nonneg j0
    refine lc_range (lo := 0) (n := j.toNat) (fun i H' => Keep d H2 H' ∧ Dr H' d l ns ∧ ∃ vs ps, H' D = some (.lst vs) ∧ vs.length = i ∧ PVs H' vs ps ∧ ∀ p ∈ ps, okP m p)
      ⟨Keep.new hD, D2.same (Same.upd hD), [], [], upd_same, rfl, .nil, fun p hp => by simp at hp⟩ (fun i H' hi h => ?_) (fun H' h => ?_)
    · obtain ⟨kH, DH, vs, ps, hd, hvl, hvs, hok⟩ := h
      refine ⟨rfl, ?_⟩
      simp only [tYes, if_true]
      refine ⟨_, rfl, _, rfl, _, _, rfl, rfl, d, l, ns, by simp, DH, fun v p H3 pv okp k3 D3 => ?_⟩
      have hd3 := k3 _ _ hDd hd
      have tu := upd_tups (ys := vs ++ [v]) hd3
      refine ⟨vs, hd3, small1000 (by omega), keep_updN (kH.trans k3) hD, D3.upd hDd hDl, vs ++ [v], ps ++ [p], upd_same, by simp [hvl], (hvs.mono (fun b xs e => tu b xs (DH.tups k3 b xs e))).snoc (pv.mono tu), fun q hq => ?_⟩
      rcases List.mem_append.mp hq with hq | hq
      · exact hok q hq
      · rw [List.mem_singleton.mp hq]; exact okp
    · obtain ⟨kH, DH, vs, ps, hd, hvl, hvs, hok⟩ := h
      refine ⟨D, vs, rfl, .inl ⟨SqL.of hd, fun t ht => ?_⟩⟩
      have hpl := hvs.length
      exact k _ (.tup ps) _ (.tup upd_same (by omega) (hvs.same (Same.upd ht))) (okP_tup hok (by omega)) ((k1.trans (k2.trans kH)).trans (Keep.new ht)) (DH.same (Same.upd ht))
  · rintro σ' H' ⟨rfl, rfl⟩
    refine ⟨_, rfl, rfl, _, rfl, ite2 (fun _ => ?_) (fun _ => ?_)⟩
    · exact k _ .non _ .non (okP_non n) k1 D1
    refine ⟨_, rfl, rfl, _, rfl, ite2 (fun _ => ?_) (fun _ => ?_)⟩
    · refine ⟨_, _, rfl, rfl, small_line (by decide +kernel), _, _, rfl, rfl, small_line (by decide +kernel), ?_⟩
      refine ⟨⟨_, rfl⟩, ?_⟩
      refine ⟨_, rfl, d, l, ns, _, rfl, D1, by decide, by decide, fun j H2 j0 j1 k2 D2 => ⟨_, rfl, by omega, by omega, fun D hD => ?_⟩⟩
      obtain ⟨hDd, hDl⟩ := D2.new_ne hD
      have hj : (j.toNat : Int) = j := Int.toNat_of_nonneg j0
      refine lc_range (lo := 0) (n := j.toNat) (fun i H' => Keep d H2 H' ∧ Dr H' d l ns ∧ ∃ cs, H' D = some (.lst (ones cs)) ∧ cs.length = i ∧ ∀ c ∈ cs, okc c ∧ c ≠ 34)
        ⟨Keep.new hD, D2.same (Same.upd hD), [], upd_same, rfl, fun p hp => by simp at hp⟩ (fun i H' hi h => ?_) (fun H' h => ?_)
      · obtain ⟨kH, DH, cs, hd, hcl, hcs⟩ := h
        refine ⟨rfl, ?_⟩
        simp only [tYes, if_true]
        refine ⟨_, rfl, _, rfl, signs, rfl, signs_size, fun q hq => ?_⟩
        obtain ⟨hqd, hql⟩ := DH.new_ne hq
        have hDq : D ≠ q := ne_of_none hd hq
        refine ⟨d, l, q, ns, _, rfl, DH.same (Same.upd hq), hqd, upd_same, signs_ne, signs_len, fun x H3 hx k3 D3 => ?_⟩
        obtain ⟨c, hc, rfl⟩ := ones_mem hx
        have hd3 : H3 D = some (.lst (ones cs)) := k3 _ _ hDd (by rw [upd_ne hDq]; exact hd)
        refine ⟨ones cs, hd3, small1000 (by unfold ones; rw [List.length_map]; omega), keep_updN (kH.trans ((Keep.new hq).trans k3)) hD, D3.upd hDd hDl, cs ++ [c], ?_, by simp [hcl], fun e he => ?_⟩
        · rw [upd_same]; simp [ones]
        · rcases List.mem_append.mp he with he | he
          · exact hcs e he
          · rw [List.mem_singleton.mp he]; exact signs_ok c hc
      · obtain ⟨kH, DH, cs, hd, hcl, hcs⟩ := h
        refine ⟨_, D, (cs.map fun c => [c]).map S, rfl, rfl, .inl (SqL.of (by rw [← ones_eq]; exact hd)), ?_, ?_⟩
        · rw [s_e, slen, ones_len]; simp; omega
        · show Q (.str (Txt.join (Str.ofString "") ((cs.map fun c => [c]).map S))) H'
          rw [s_e, ones_join]
          exact k _ (.str cs) _ (.str cs) (okP_str n hcs (by omega)) (k1.trans (k2.trans kH)) DH
    · refine ⟨_, rfl, ?_⟩
      refine ⟨_, rfl, d, l, ns, _, rfl, D1, by decide, by decide, fun a1 H2 a10 a11 k2 D2 => ?_⟩
      refine ⟨_, rfl, d, l, ns, _, rfl, D2, by decide, by decide, fun a2 H3 a20 a21 k3 D3 => ?_⟩
      refine ⟨_, _, rfl, rfl, ⟨by decide, by decide, by decide⟩, _, _, rfl, rfl, _, rfl, d, l, ns, _, rfl, D3, by decide, by decide, fun a3 H4 a30 a31 k4 D4 => ⟨_, _, rfl, rfl, ?_⟩⟩
      refine ⟨by show 3 ≤ sizeLine; decide, fun q hq => ?_⟩
      obtain ⟨hqd, hql⟩ := D4.new_ne hq
      refine ⟨d, l, q, ns, _, rfl, D4.same (Same.upd hq), hqd, upd_same, by simp, by simp, fun x H5 hx k5 D5 => ?_⟩
      obtain ⟨z, rfl, z0, z1⟩ : ∃ z : Int, x = .int z ∧ 0 ≤ z ∧ z < 10 ^ 20 := by
        have e20 : (10 : Int) ^ (20 : Int).toNat = 10 ^ 20 := rfl
        simp only [List.mem_cons, List.not_mem_nil, or_false] at hx
        rcases hx with rfl | rfl | rfl
        · exact ⟨_, rfl, a10, by omega⟩
        · exact ⟨_, rfl, a20, by omega⟩
        · exact ⟨_, rfl, by rw [e20]; omega, by rw [e20]; omega⟩
      refine ⟨_, rfl, _, rfl, d, l, ns, _, rfl, D5, by decide, by decide, fun b H6 b0 b1 k6 D6 => ?_⟩
      refine ⟨_, _, rfl, rfl, .inl ⟨by decide, by decide⟩, _, _, rfl, rfl, _, _, rfl, rfl, .inr ⟨by omega, by omega⟩, ?_⟩
      refine k _ (.int _) _ (.int _) (okP_int n ?_) (k1.trans (k2.trans (k3.trans (k4.trans ((Keep.new hq).trans (k5.trans k6)))))) D6
      have hb : b = 0 ∨ b = 1 := by omega
      rcases hb with rfl | rfl
      · simp; omega
      · simp; omega
end
end Toy

set_option Elab.async false
set_option linter.all false
set_option maxRecDepth 100000
set_option maxHeartbeats 4000000
namespace Toy
open PySem L2 TL
open SX (S)
/-! ### the place in a text -/
theorem s_n : Str.ofString "n" = S [110] := by decide +kernel
theorem s_nl : Str.ofString "\n" = S [10] := by decide +kernel
theorem slice2 {a : List Nat} {i j : Nat} (h : i ≤ j) (hi : i ≤ a.length) : Txt.slice (S a) (some (i : Int)) (some (j : Int)) = S ((a.drop i).take (j - i)) := by
  have hl : ((S a).length : Int) = (a.length : Int) := by rw [slen]
  by_cases hj : j ≤ a.length
  · have e := beq_iff_eq.mp (PyProof.Rows.slice_closesL (x := S a) (i := (i : Int)) (j := (j : Int)) (by omega) (by omega) (by omega))
    refine e.trans (TL.ext_tl ?_)
    show (a.drop ((i : Int)).toNat).take ((j : Int) - i).toNat = _
    rw [show ((i : Int)).toNat = i by omega, show ((j : Int) - i).toNat = j - i by omega]
  · have e2 : Txt.slice (S a) (some (i : Int)) (some (j : Int)) = Txt.slice (S a) (some (i : Int)) (some (a.length : Int)) := by
      unfold Txt.slice
      rw [slen, SX.idx_hi (by omega)]
    have e := beq_iff_eq.mp (PyProof.Rows.slice_closesL (x := S a) (i := (i : Int)) (j := (a.length : Int)) (by omega) (by omega) (by omega))
    refine (e2.trans e).trans (TL.ext_tl ?_)
    show (a.drop ((i : Int)).toNat).take ((a.length : Int) - i).toNat = (a.drop i).take (j - i)
    rw [show ((i : Int)).toNat = i by omega, List.take_of_length_le (by rw [List.length_drop]; omega), List.take_of_length_le (by rw [List.length_drop]; omega)]
def pk (s : List Nat) : Str := S (s.take 1)
theorem slice_pk {a : List Nat} {i : Nat} (hi : i ≤ a.length) : Txt.slice (S a) (some (i : Int)) (some ((i : Int) + 1)) = pk (a.drop i) := by
  have e := slice2 (a := a) (i := i) (j := i + 1) (by omega) hi
  rw [show ((i + 1 : Nat) : Int) = (i : Int) + 1 by omega] at e
  rw [e, show i + 1 - i = 1 by omega]
  rfl
theorem str_inj {x y : Str} : V.str x = V.str y ↔ x = y := ⟨fun h => V.str.inj h, fun h => by rw [h]⟩
theorem S_eq {a b : List Nat} : S a = S b ↔ a = b := ⟨fun h => SX.S_inj h, fun h => by rw [h]⟩
theorem pk_is {s : List Nat} {c : Nat} {x : Str} (hx : x = S [c]) : V.str (pk s) = V.str x ↔ s.head? = some c := by
  rw [str_inj, hx, pk, S_eq]
  cases s with
  | nil => simp
  | cons a r => simp
theorem pk_nil {s : List Nat} {x : Str} (hx : x = S []) : V.str (pk s) = V.str x ↔ s.head? = none := by
  rw [str_inj, hx, pk, S_eq]
  cases s with
  | nil => simp
  | cons a r => simp
theorem eqT {s : List Nat} {c : Nat} {x : Str} (hx : x = S [c]) (h : s.head? = some c) : decide (V.str (pk s) = V.str x) = true := decide_eq_true ((pk_is hx).mpr h)
theorem eqF {s : List Nat} {c : Nat} {x : Str} (hx : x = S [c]) (h : s.head? ≠ some c) : ¬ decide (V.str (pk s) = V.str x) = true := by
  rw [decide_eq_false (fun z => h ((pk_is hx).mp z))]
  decide
theorem neF {s : List Nat} {c : Nat} {x : Str} (hx : x = S [c]) (h : s.head? = some c) : ¬ (!decide (V.str (pk s) = V.str x)) = true := by
  rw [eqT hx h]
  decide
theorem neT {s : List Nat} {c : Nat} {x : Str} (hx : x = S [c]) (h : s.head? ≠ some c) : (!decide (V.str (pk s) = V.str x)) = true := by
  rw [decide_eq_false (fun z => h ((pk_is hx).mp z))]
  rfl
theorem head_drop {cs : List Nat} {i : Nat} : (cs.drop i).head? = cs[i]? := by rw [List.head?_drop]
/-! ### the reader's object -/
def rf (cs : List Nat) (i : Nat) : List (Str × V) := [("text", .str (S cs)), ("place", .int (i : Int))]
theorem pt_ : ¬ (("place" : Str) = "text") := by decide +kernel
theorem tp_ : ¬ (("text" : Str) = "place") := by decide +kernel
theorem rf_text (cs : List Nat) (i : Nat) : (rf cs i).lookup ("text" : Str) = some (.str (S cs)) := by simp [rf, List.lookup]
theorem rf_place (cs : List Nat) (i : Nat) : (rf cs i).lookup ("place" : Str) = some (.int (i : Int)) := by
  have q : (("place" : Str) == ("text" : Str)) = false := by simpa using pt_
  simp [rf, List.lookup, q]
theorem rf_put (cs : List Nat) (i j : Nat) : putF "place" (.int (j : Int)) (rf cs i) = rf cs j := by
  show (if ("text" : Str) = "place" then _ else (("text" : Str), V.str (S cs)) :: (if ("place" : Str) = "place" then [(("place" : Str), V.int (j : Int))] else _)) = _
  rw [if_neg tp_, if_pos rfl]
  rfl
theorem rf_inc (cs : List Nat) (i : Nat) : putF "place" (.int ((i : Int) + 1)) (rf cs i) = rf cs (i + 1) := by
  have e := rf_put cs i (i + 1)
  rw [show ((i + 1 : Nat) : Int) = (i : Int) + 1 by omega] at e
  exact e
theorem rf_no (cs : List Nat) (i : Nat) {m : Str} (h1 : ¬ m = "text") (h2 : ¬ m = "place") : (rf cs i).lookup m = none := by
  have q1 : (m == ("text" : Str)) = false := by simpa using h1
  have q2 : (m == ("place" : Str)) = false := by simpa using h2
  simp [rf, List.lookup, q1, q2]
def At (CR : Addr) (H : Hp) (p dx : Addr) (cs : List Nat) (i : Nat) : Prop := H p = some (.ins CR dx (rf cs i))
/-- the texts that are read -/
def okT (cs : List Nat) : Prop := (∀ c ∈ cs, okc c) ∧ cs.length ≤ 100000
theorem okT.line {cs : List Nat} (h : okT cs) : (S cs).length ≤ sizeLine := by rw [slen]; exact small_line (by have := h.2; omega)
/-- raised: BadPaper(j) -/
def Bad (CB p : Addr) (E : XK) (H : Hp) (j : Nat) : Prop := ∀ dd H', Keep p H H' → H dd = none → H' dd = some (.xd [(("at" : Str), .int (j : Int))]) → E (.ref CB) (some dd) H'
theorem Bad.now {CB p : Addr} {E : XK} {H : Hp} {j : Nat} (h : Bad CB p E H j) : ∀ d, H d = none → E (.ref CB) (some d) (upd H d (.xd [(("at" : Str), .int (j : Int))])) := fun d hd => h d _ (Keep.new hd) hd upd_same
theorem Bad.later {CB p : Addr} {E : XK} {H H' : Hp} {j : Nat} (h : Bad CB p E H j) (k : Keep p H H') (hp : ∃ o, H p = some o) (hp' : ∃ o, H' p = some o) : Bad CB p E H' j := fun dd H'' k2 hn hx => by
  refine h dd H'' (k.trans k2) ?_ hx
  cases e : H dd with
  | none => rfl
  | some o =>
    by_cases z : dd = p
    · obtain ⟨o', e'⟩ := hp'
      rw [z, e'] at hn; cases hn
    · rw [k _ _ z e] at hn; cases hn
def spInit (CR : Addr) : Sp := fun vs H Q _ => ∃ p dx cs, vs = [.ref p, .str (S cs)] ∧ H p = some (.ins CR dx []) ∧ Q .non (upd H p (.ins CR dx (rf cs 0)))
def spPeek (CR : Addr) : Sp := fun vs H Q _ => ∃ p dx cs i, vs = [.ref p] ∧ At CR H p dx cs i ∧ okT cs ∧ i ≤ cs.length ∧ Q (.str (pk (cs.drop i))) H
def spSkip (CR CB : Addr) : Sp := fun vs H Q E => ∃ p dx cs i c, vs = [.ref p, .str (S [c])] ∧ At CR H p dx cs i ∧ okT cs ∧ i ≤ cs.length ∧
  ((cs.drop i).head? = some c → Q .non (upd H p (.ins CR dx (rf cs (i + 1))))) ∧ ((cs.drop i).head? ≠ some c → Bad CB p E H i)
/-- what a reader does, r the answer of the plain function -/
def Ends (CR CB p dx : Addr) (cs : List Nat) (i : Nat) (H : Hp) (Q : VK) (E : XK) : Res Paper → Prop
  | .ok q n => ∀ v H', Keep p H H' → At CR H' p dx cs (i + n) → PV H' v q → Q v H'
  | .bad n => Bad CB p E H (i + n)
def spStr (CR CB : Addr) : Sp := fun vs H Q E => ∃ p dx cs i t, vs = [.ref p] ∧ At CR H p dx cs i ∧ okT cs ∧ i ≤ cs.length ∧ cs.drop i = 34 :: t ∧ Ends CR CB p dx cs i H Q E (rdStr t)
def spNum (CR CB : Addr) : Sp := fun vs H Q E => ∃ p dx cs i, vs = [.ref p] ∧ At CR H p dx cs i ∧ okT cs ∧ i ≤ cs.length ∧ Ends CR CB p dx cs i H Q E (rdNum (cs.drop i))
/-- read_parts, k levels left (the depth is 60 - k) -/
def spParts (CR CB : Addr) (k : Nat) : Sp := fun vs H Q E => ∃ p dx cs i t, vs = [.ref p, .int (60 - (k : Int))] ∧ At CR H p dx cs i ∧ okT cs ∧ i ≤ cs.length ∧ cs.drop i = 40 :: t ∧ Ends CR CB p dx cs i H Q E (rd k (40 :: t))
def spRead (CR CB : Addr) (k : Nat) : Sp := fun vs H Q E => ∃ p dx cs i, vs = [.ref p, .int (60 - (k : Int))] ∧ At CR H p dx cs i ∧ okT cs ∧ i ≤ cs.length ∧ Ends CR CB p dx cs i H Q E (rd k (cs.drop i))
section
variable {P : Program} {w : World} {K : PySem.W.Frag} {mg : Str → Option Value} {base : Heap} {CB fB cB dB CR : Addr}
theorem At.fld {H : Hp} {p dx : Addr} {cs : List Nat} {i : Nat} (h : At CR H p dx cs i) : H p = some (.ins CR dx (rf cs i)) := h
theorem upd_at {H : Hp} {p dx : Addr} {cs : List Nat} {i : Nat} : At CR (upd H p (.ins CR dx (rf cs i))) p dx cs i := upd_same
abbrev s_r_init : Stmt := inClass (top 7) 0
theorem sc_r_init : FnScope ["self", "text"] ["self", "text"] (defScope s_r_init) := ⟨rfl, rfl, rfl, by decide +kernel, rfl, by decide +kernel, by decide +kernel⟩

theorem ok_r_init {f : Addr} {fd : FuncData} (F : Fun K "__init__" "PaperReader.__init__" s_r_init f fd) (T : Txt P K mg CB fB cB dB CR) : FnOk P w K mg base CX0 1 f fd ["self", "text"] (spInit CR) := by
  refine F.ok sc_r_init (fun vs H Q E h => ?_) (fun cdv A outer s H vs Q E hr h => ?_)
  · obtain ⟨p, dx, cs, rfl, _⟩ := h
    rfl
  obtain ⟨p, dx, cs, rfl, hp, k⟩ := h
  refine ⟨_, (pss_cons (ps_fld (pv 0) (pv 1) rfl)
    (pss_one (ps_fld (pv 0) pe_int rfl))), ?_⟩
  refine ⟨_, rfl, _, rfl, p, CR, dx, _, rfl, hp, T.cl, T.nT, (by show 0 < 1000; decide), _, rfl, p, CR, dx, _, rfl, upd_same, T.cl, T.nP, (by show 1 < 1000; decide), ?_⟩
  rw [upd_upd]
  have e : putF "place" (V.int 0) (putF "text" (V.str (S cs)) []) = rf cs 0 := by
    show (if ("text" : Str) = "place" then _ else (("text" : Str), V.str (S cs)) :: [(("place" : Str), V.int 0)]) = _
    rw [if_neg tp_]
    rfl
  rw [e]
  exact k
abbrev s_r_peek : Stmt := inClass (top 7) 1
theorem sc_r_peek : FnScope ["self"] ["self"] (defScope s_r_peek) := ⟨rfl, rfl, rfl, by decide +kernel, rfl, by decide +kernel, by decide +kernel⟩

theorem ok_r_peek {f : Addr} {fd : FuncData} (F : Fun K "peek" "PaperReader.peek" s_r_peek f fd) (T : Txt P K mg CB fB cB dB CR) : FnOk P w K mg base CX0 1 f fd ["self"] (spPeek CR) := by
  refine F.ok sc_r_peek (fun vs H Q E h => ?_) (fun cdv A outer s H vs Q E hr h => ?_)
  · obtain ⟨p, dx, cs, i, rfl, _⟩ := h
    rfl
  obtain ⟨p, dx, cs, i, rfl, hA, hT, hi, k⟩ := h
  refine ⟨_, (pss_one (ps_ret (pe_slice C8.sl_txt (pe_fld (pv 0) rfl) (po_some (pe_fld (pv 0) rfl)) (po_some (pe_op op_add (pe_fld (pv 0) rfl) pe_int))))), ?_⟩
  refine ⟨_, rfl, p, CR, dx, _, _, rfl, hA.fld, T.cl, T.nT, rf_text _ _, ?_⟩
  refine ⟨_, rfl, p, CR, dx, _, _, rfl, hA.fld, T.cl, T.nP, rf_place _ _, _, rfl, ?_⟩
  refine ⟨_, rfl, p, CR, dx, _, _, rfl, hA.fld, T.cl, T.nP, rf_place _ _, _, _, rfl, rfl, _, rfl, _, rfl, hT.line, ?_⟩
  rw [slice_pk hi]
  exact k
abbrev s_r_skip : Stmt := inClass (top 7) 2
theorem sc_r_skip : FnScope ["self", "sign"] ["self", "sign"] (defScope s_r_skip) := ⟨rfl, rfl, rfl, by decide +kernel, rfl, by decide +kernel, by decide +kernel⟩

theorem ok_r_skip {f : Addr} {fd : FuncData} (F : Fun K "skip" "PaperReader.skip" s_r_skip f fd) (T : Txt P K mg CB fB cB dB CR) (M_peek : MetX P w K mg base CX0 1 CR "peek" (spPeek CR)) : FnOk P w K mg base (L2.CX P w) 2 f fd ["self", "sign"] (spSkip CR CB) := by
  refine F.okX sc_r_skip (fun vs H Q E h => ?_) (fun cdv A outer s H vs Q E hr h => ?_)
  · obtain ⟨p, dx, cs, i, c, rfl, _⟩ := h
    rfl
  obtain ⟨p, dx, cs, i, c, rfl, hA, hT, hi, k1, k2⟩ := h
  refine ⟨_, (pss_cons (ps_if (pt_cmpR op_ne (pe_me0 M_peek hr (by omega) pass0 (pv 0)) (pv 1) (nomark _)) (pss_one (Sup_at.ps_raise rfl T.x_BadPaper T.g_BadPaper hr (takes_of rfl rfl rfl rfl) (pa_cons (pe_fld (pv 0) rfl) pa_nil))) pss_nil)
    (pss_one (ps_fldaug (pv 0) pe_int in_add))), ?_⟩
  refine ⟨_, rfl, p, dx, _, rfl, hA.fld, rf_no _ _ (by decide +kernel) (by decide +kernel), p, dx, cs, i, rfl, hA, hT, hi, _, rfl, rfl, _, rfl, ?_⟩
  by_cases h : (cs.drop i).head? = some c
  · refine ifF (neF rfl h) ?_
    refine ⟨_, rfl, p, CR, dx, _, _, rfl, hA.fld, T.cl, T.nP, rf_place _ _, _, _, rfl, rfl, dx, _, hA, by show 2 < 1000; decide, ?_⟩
    rw [rf_inc]
    exact k1 h
  · refine ifT (neT rfl h) ?_
    refine ⟨_, rfl, p, CR, dx, _, _, rfl, hA.fld, T.cl, T.nP, rf_place _ _, _, rfl, ?_⟩
    exact (k2 h).now
theorem inn_take : ∀ t : List Nat, t.take (inn t).length = inn t
  | [] => rfl
  | a :: t => by
    unfold inn
    rw [List.takeWhile_cons]
    split
    · have := inn_take t
      unfold inn at this
      rw [List.length_cons, List.take_succ_cons, this]
    · rfl
theorem inn_cons (a : Nat) (t : List Nat) : inn (a :: t) = if a ≠ 34 then a :: inn t else [] := by
  unfold inn
  rw [List.takeWhile_cons]
  by_cases h : a = 34 <;> simp [h]
theorem inn_stop : ∀ (t : List Nat) (c : Nat), (t.drop (inn t).length).head? = some c → c = 34
  | [], c, h => by simp [inn] at h
  | a :: t, c, h => by
    rw [inn_cons] at h
    by_cases e : a = 34
    · rw [if_neg (by simp [e])] at h
      simp at h; omega
    · rw [if_pos e, List.length_cons, List.drop_succ_cons] at h
      exact inn_stop t c h
theorem inn_in : ∀ (t : List Nat) (m c : Nat), m < (inn t).length → (t.drop m).head? = some c → c ≠ 34
  | [], m, c, hm, h => by simp [inn] at hm
  | a :: t, m, c, hm, h => by
    rw [inn_cons] at hm
    by_cases e : a = 34
    · rw [if_neg (by simp [e])] at hm
      simp at hm
    · rw [if_pos e, List.length_cons] at hm
      cases m with
      | zero => simp at h; omega
      | succ m => exact inn_in t m c (by omega) (by simpa using h)
theorem digs_cons (n a : Nat) (t : List Nat) : ((a :: t).take (n + 1)).takeWhile dig = if dig a = true then a :: (t.take n).takeWhile dig else [] := by
  rw [List.take_succ_cons, List.takeWhile_cons]
theorem tw_take : ∀ (n : Nat) (t : List Nat), t.take ((t.take n).takeWhile dig).length = (t.take n).takeWhile dig
  | 0, t => by simp
  | n + 1, [] => by simp
  | n + 1, a :: t => by
    rw [digs_cons]
    split
    · rw [List.length_cons, List.take_succ_cons, tw_take n t]
    · rfl
theorem tw_in : ∀ (n : Nat) (t : List Nat) (m : Nat), m < ((t.take n).takeWhile dig).length → ∃ c, (t.drop m).head? = some c ∧ dig c = true ∧ m < n
  | 0, t, m, h => by simp at h
  | n + 1, [], m, h => by simp at h
  | n + 1, a :: t, m, h => by
    rw [digs_cons] at h
    split at h
    · rename_i ha
      cases m with
      | zero => exact ⟨a, by simp, ha, by omega⟩
      | succ m =>
        rw [List.length_cons] at h
        obtain ⟨c, h1, h2, h3⟩ := tw_in n t m (by omega)
        exact ⟨c, by simpa using h1, h2, by omega⟩
    · simp at h
theorem tw_more : ∀ (n : Nat) (t : List Nat) (m c : Nat), m < n → m ≤ ((t.take n).takeWhile dig).length → (t.drop m).head? = some c → dig c = true → m + 1 ≤ ((t.take n).takeWhile dig).length
  | 0, t, m, c, hm, _, _, _ => by omega
  | n + 1, [], m, c, hm, _, h, _ => by simp at h
  | n + 1, a :: t, m, c, hm, hl, h, hc => by
    rw [digs_cons] at hl ⊢
    cases m with
    | zero =>
      simp at h; subst h
      rw [if_pos hc, List.length_cons]; omega
    | succ m =>
      split at hl
      · rename_i ha
        rw [if_pos ha, List.length_cons]
        rw [List.length_cons] at hl
        have := tw_more n t m c (by omega) (by omega) (by simpa using h) hc
        omega
      · simp at hl
theorem drop_of {cs t : List Nat} {i : Nat} {c : Nat} (h : cs.drop i = c :: t) : cs.drop (i + 1) = t ∧ i + 1 + t.length = cs.length := by
  have e : cs.drop (i + 1) = (cs.drop i).drop 1 := by rw [List.drop_drop]
  have l := congrArg List.length h
  rw [List.length_drop, List.length_cons] at l
  rw [e, h]
  exact ⟨rfl, by omega⟩
theorem drop_add {cs t : List Nat} {i m : Nat} (h : cs.drop i = t) : cs.drop (i + m) = t.drop m := by rw [← h, List.drop_drop]
theorem okT.at {cs : List Nat} (h : okT cs) {i c : Nat} (e : (cs.drop i).head? = some c) : okc c := h.1 c (List.mem_of_mem_drop (List.mem_of_mem_head? e))
abbrev s_r_read_string : Stmt := inClass (top 7) 3
theorem sc_r_read_string : FnScope ["self", "start", "sign"] ["self"] (defScope s_r_read_string) := ⟨rfl, rfl, rfl, by decide +kernel, rfl, by decide +kernel, by decide +kernel⟩

theorem ok_r_string {f : Addr} {fd : FuncData} (F : Fun K "read_string" "PaperReader.read_string" s_r_read_string f fd) (T : Txt P K mg CB fB cB dB CR) (M_peek : MetX P w K mg base CX0 1 CR "peek" (spPeek CR))
    (M_skip : MetX P w K mg base (L2.CX P w) 2 CR "skip" (spSkip CR CB)) : FnOk P w K mg base (L2.CX P w) 3 f fd ["self"] (spStr CR CB) := by
  refine F.okX sc_r_read_string (fun vs H Q E h => ?_) (fun cdv A outer s H vs Q E hr h => ?_)
  · obtain ⟨p, dx, cs, i, t, rfl, _⟩ := h
    rfl
  obtain ⟨p, dx, cs, i, t, rfl, hA, hT, hi, ht, k⟩ := h
  obtain ⟨ht1, hlen⟩ := drop_of ht
  have hil := inn_len t
  refine ⟨_, (pss_cons (ps_expr (pe_me M_skip hr (by omega) (passes_call (takes_of rfl rfl rfl rfl) fun _ _ _ _ h => h) (pv 0) (pa_cons pe_str pa_nil)))
    (pss_cons (ps_set (i := 1) sc_r_read_string.nd rfl (Or.inl rfl) (pe_fld (pv 0) rfl))
    (pss_cons (ps_while (passes_of rfl) (pt_cmpR op_ne (pe_me0 M_peek hr (by omega) pass0 (pv 0)) pe_str (nomark _)) (pss_cons (ps_set (i := 2) sc_r_read_string.nd rfl (Or.inl rfl) (pe_me0 M_peek hr (by omega) pass0 (pv 0)))
    (pss_cons (ps_if (PW.pt (pw_or (pt_cmpR op_eq (pv 2) pe_str (nomark _)) (pw_or1 (PW.pt (pw_and (pt_cmpR op_ne (pv 2) pe_str (nomark _)) (pw_and1 (pt_not (pt_chain op_le op_le pe_int (pe_callB call_ord (by rfl) T.z_ord b_ord (pa_cons (pv 2) pa_nil)) pe_int)))))))) (pss_one (Sup_at.ps_raise rfl T.x_BadPaper T.g_BadPaper hr (takes_of rfl rfl rfl rfl) (pa_cons (pe_fld (pv 0) rfl) pa_nil))) pss_nil)
    (pss_one (ps_fldaug (pv 0) pe_int in_add)))))
    (pss_cons (ps_fldaug (pv 0) pe_int in_add)
    (pss_one (ps_ret (pe_slice C8.sl_txt (pe_fld (pv 0) rfl) (po_some (pv 1)) (po_some (pe_op op_sub (pe_fld (pv 0) rfl) pe_int))))))))), ?_⟩
  refine ⟨_, rfl, p, dx, _, rfl, hA.fld, rf_no _ _ (by decide +kernel) (by decide +kernel), p, dx, cs, i, 34, by rw [s_q]; rfl, hA, hT, hi, fun _ => ?_, fun h => absurd (by rw [ht]; rfl) h⟩
  refine ⟨_, rfl, p, CR, dx, _, _, rfl, upd_same, T.cl, T.nP, rf_place _ _, ?_⟩
  refine wh (fun (m : Nat) σ H' => m ≤ (inn t).length ∧ H' = upd H p (.ins CR dx (rf cs (i + 1 + m))) ∧ ∃ g, σ = [some (.ref p), some (.int ((i + 1 : Nat) : Int)), g]) (fun m => (inn t).length - m) 0 ⟨Nat.zero_le _, rfl, _, rfl⟩ ?_
  rintro m σ H' ⟨hm, rfl, g, rfl⟩
  have hd : cs.drop (i + 1 + m) = t.drop m := drop_add ht1
  have hj : i + 1 + m ≤ cs.length := by omega
  refine ⟨_, rfl, p, dx, _, rfl, upd_same, rf_no _ _ (by decide +kernel) (by decide +kernel), p, dx, cs, i + 1 + m, rfl, upd_at, hT, hj, rfl, _, rfl, ?_⟩
  rw [hd]
  by_cases h34 : (t.drop m).head? = some 34
  · refine ifF (neF s_q h34) ?_
    have hml : m = (inn t).length := by
      by_cases z : m < (inn t).length
      · exact absurd rfl (inn_in t m 34 z h34)
      · omega
    have hmt : m < t.length := by
      by_cases z : m < t.length
      · exact z
      · rw [List.drop_eq_nil_of_le (by omega)] at h34; simp at h34
    refine ⟨_, rfl, p, CR, dx, _, _, rfl, upd_same, T.cl, T.nP, rf_place _ _, _, _, rfl, rfl, dx, _, upd_same, by show 2 < 1000; decide, ?_⟩
    rw [rf_inc, upd_upd]
    refine ⟨_, rfl, p, CR, dx, _, _, rfl, upd_same, T.cl, T.nT, rf_text _ _, _, rfl, _, rfl, ?_⟩
    refine ⟨_, rfl, p, CR, dx, _, _, rfl, upd_same, T.cl, T.nP, rf_place _ _, _, _, rfl, rfl, _, rfl, _, rfl, hT.line, ?_⟩
    have e : Txt.slice (S cs) (some ((i + 1 : Nat) : Int)) (some (((i + 1 + m + 1 : Nat) : Int) - 1)) = S (inn t) := by
      rw [show ((i + 1 + m + 1 : Nat) : Int) - 1 = ((i + 1 + m : Nat) : Int) by omega, slice2 (by omega) (by omega), ht1, show i + 1 + m - (i + 1) = m by omega, hml, inn_take]
    show Q (.str (Txt.slice (S cs) (some ((i + 1 : Nat) : Int)) (some (((i + 1 + m + 1 : Nat) : Int) - 1)))) _
    rw [e]
    have er : rdStr t = .ok (.str (inn t)) ((inn t).length + 2) := by unfold rdStr; rw [if_neg (by omega)]
    rw [er] at k
    refine k _ _ Keep.upd ?_ (.str _)
    rw [show i + ((inn t).length + 2) = i + 1 + m + 1 by omega]
    exact upd_at
  · refine ifT (neT s_q h34) ?_
    refine ⟨whN _ _ m, whN_ok, ?_⟩
    refine ⟨_, rfl, p, dx, _, rfl, upd_same, rf_no _ _ (by decide +kernel) (by decide +kernel), p, dx, cs, i + 1 + m, rfl, upd_at, hT, hj, ?_⟩
    rw [hd]
    cases hh : (t.drop m).head? with
    | none =>
      have hmt : m = t.length := by
        have : t.drop m = [] := by
          cases z : t.drop m with
          | nil => rfl
          | cons a r => rw [z] at hh; simp at hh
        have := List.drop_eq_nil_iff.mp this
        omega
      have er : rdStr t = .bad (1 + t.length) := by unfold rdStr; rw [if_pos (by omega)]
      rw [er] at k
      refine ⟨_, rfl, rfl, _, rfl, ifT (decide_eq_true ((pk_nil s_e).mpr hh)) (ifT rfl ?_)⟩
      refine ⟨_, rfl, p, CR, dx, _, _, rfl, upd_same, T.cl, T.nP, rf_place _ _, _, rfl, fun d hd' => ?_⟩
      have kk : Keep p H (upd H p (.ins CR dx (rf cs (i + 1 + m)))) := Keep.upd
      have b := Bad.later (H' := upd H p (.ins CR dx (rf cs (i + 1 + m)))) (show Bad CB p E H (i + (1 + t.length)) from k) kk ⟨_, hA⟩ ⟨_, upd_same⟩
      rw [show i + (1 + t.length) = i + 1 + m by omega] at b
      exact b.now d hd'
    | some c =>
      have hc : okc c := hT.at (by rw [hd]; exact hh)
      have hc34 : c ≠ 34 := fun z => h34 (by rw [hh, z])
      have epk : pk (t.drop m) = S [c] := by
        cases z : t.drop m with
        | nil => rw [z] at hh; simp at hh
        | cons a r => rw [z] at hh; simp at hh; subst hh; rfl
      refine ⟨_, rfl, rfl, _, rfl, ifF (fun z => ?_) ?_⟩
      · have z2 := (pk_nil s_e).mp (of_decide_eq_true z)
        rw [hh] at z2; cases z2
      rw [epk]
      have nx : whN (fun (m : Nat) σ H' => m ≤ (inn t).length ∧ H' = upd H p (.ins CR dx (rf cs (i + 1 + m))) ∧ ∃ g, σ = [some (.ref p), some (.int ((i + 1 : Nat) : Int)), g]) (fun m => (inn t).length - m) m [some (.ref p), some (.int ((i + 1 : Nat) : Int)), some (.str (S [c]))] (upd H p (.ins CR dx (rf cs (i + 1 + m + 1)))) := by
        have hlt : m < (inn t).length := by
          by_cases z : m < (inn t).length
          · exact z
          · exact absurd (inn_stop t c (by rw [show (inn t).length = m by omega]; exact hh)) hc34
        exact ⟨m + 1, by show (inn t).length - (m + 1) < (inn t).length - m; omega, by omega, rfl, _, rfl⟩
      have go : (sFldAug K (tVar 0) (tC (.int 1)) rAdd "place") { nx := whN (fun (m : Nat) σ H' => m ≤ (inn t).length ∧ H' = upd H p (.ins CR dx (rf cs (i + 1 + m))) ∧ ∃ g, σ = [some (.ref p), some (.int ((i + 1 : Nat) : Int)), g]) (fun m => (inn t).length - m) m, rt := Q }
          [some (.ref p), some (.int ((i + 1 : Nat) : Int)), some (.str (S [c]))] (upd H p (.ins CR dx (rf cs (i + 1 + m)))) := by
        refine ⟨_, rfl, p, CR, dx, _, _, rfl, upd_same, T.cl, T.nP, rf_place _ _, _, _, rfl, rfl, dx, _, upd_same, by show 2 < 1000; decide, ?_⟩
        rw [rf_inc, upd_upd]
        exact nx
      refine ⟨_, rfl, rfl, _, rfl, ?_⟩
      by_cases h10 : c = 10
      · refine ifF (by rw [h10, s_nl]; decide) ?_
        exact ifF Bool.false_ne_true go
      · refine ifT (by rw [decide_eq_false (fun z => h10 (by rw [str_inj, s_nl, S_eq] at z; injection z))]; rfl) ?_
        have hc2 : 32 ≤ c ∧ c ≤ 126 := by rcases hc with z | z; exact absurd z h10; exact z
        refine ⟨_, rfl, _, rfl, rfl, _, _, rfl, rfl, _, rfl, ifT ?_ ⟨_, _, rfl, rfl, _, rfl, ifF ?_ go⟩⟩
        · exact decide_eq_true (show (32 : Int) ≤ (c : Int) by omega)
        · have e : decide ((c : Int) ≤ 126) = true := decide_eq_true (by omega)
          show ¬ (!decide ((c : Int) ≤ 126)) = true
          rw [e]; decide
end
end Toy

set_option Elab.async false
set_option linter.all false
set_option maxRecDepth 100000
set_option maxHeartbeats 4000000
namespace Toy
open PySem L2 TL
open SX (S)
section
variable {P : Program} {w : World} {K : PySem.W.Frag} {mg : Str → Option Value} {base : Heap} {CB fB cB dB CR : Addr}
theorem At.id {H : Hp} {p dx : Addr} {cs : List Nat} {i : Nat} (h : At CR H p dx cs i) : upd H p (.ins CR dx (rf cs i)) = H := by
  funext b
  by_cases hb : b = p
  · rw [hb, upd_same]; exact h.symm
  · rw [upd_ne hb]
theorem s_digits : Str.ofString "0123456789" = S [48, 49, 50, 51, 52, 53, 54, 55, 56, 57] := by decide +kernel
theorem dig_mem (c : Nat) : decide (c ∈ [48, 49, 50, 51, 52, 53, 54, 55, 56, 57]) = dig c := by
  unfold dig
  by_cases h : 48 ≤ c ∧ c ≤ 57
  · have : c = 48 ∨ c = 49 ∨ c = 50 ∨ c = 51 ∨ c = 52 ∨ c = 53 ∨ c = 54 ∨ c = 55 ∨ c = 56 ∨ c = 57 := by omega
    rcases this with rfl | rfl | rfl | rfl | rfl | rfl | rfl | rfl | rfl | rfl <;> decide
  · have e1 : (decide (48 ≤ c) && decide (c ≤ 57)) = false := by
      cases h2 : (decide (48 ≤ c) && decide (c ≤ 57)) with
      | false => rfl
      | true => exact absurd (by simpa using h2) h
    rw [e1]
    apply decide_eq_false
    simp only [List.mem_cons, List.not_mem_nil, or_false]
    omega
theorem in_digits (c : Nat) : (!(PySem.Builtin.Str.occurrences (Str.ofString "0123456789") (S [c]) 0 (Str.ofString "0123456789").length 1).isEmpty) = dig c := by
  rw [s_digits]
  exact (SX.in_one _ c).trans (dig_mem c)
theorem pk_one {s : List Nat} {c : Nat} (h : s.head? = some c) : pk s = S [c] := by
  cases s with
  | nil => simp at h
  | cons a r => simp at h; subst h; rfl
theorem tail_drop (s : List Nat) : s.tail = s.drop 1 := by simp
theorem digs_all (s : List Nat) : NumText.AllDigits (digs s) := by
  intro c hc
  have : ∀ (l : List Nat), c ∈ l.takeWhile dig → dig c = true := by
    intro l
    induction l with
    | nil => intro h; simp at h
    | cons a l ih =>
      intro h
      rw [List.takeWhile_cons] at h
      split at h
      · rename_i ha
        rcases List.mem_cons.mp h with rfl | h
        · exact ha
        · exact ih h
      · simp at h
  have q := this _ hc
  unfold dig at q
  simpa using q
abbrev s_r_read_number : Stmt := inClass (top 7) 4
theorem sc_r_read_number : FnScope ["self", "start", "digits"] ["self"] (defScope s_r_read_number) := ⟨rfl, rfl, rfl, by decide +kernel, rfl, by decide +kernel, by decide +kernel⟩

theorem ok_r_number {f : Addr} {fd : FuncData} (F : Fun K "read_number" "PaperReader.read_number" s_r_read_number f fd) (T : Txt P K mg CB fB cB dB CR) (M_peek : MetX P w K mg base CX0 1 CR "peek" (spPeek CR)) :
    FnOk P w K mg base (L2.CX P w) 3 f fd ["self"] (spNum CR CB) := by
  refine F.okX sc_r_read_number (fun vs H Q E h => ?_) (fun cdv A outer s0 H vs Q E hr h => ?_)
  · obtain ⟨p, dx, cs, i, rfl, _⟩ := h
    rfl
  obtain ⟨p, dx, cs, i, rfl, hA, hT, hi, k⟩ := h
  obtain ⟨s, hs⟩ : ∃ s, s = cs.drop i := ⟨_, rfl⟩
  rw [← hs] at k
  have hsl : s.length + i = cs.length := by rw [hs, List.length_drop]; omega
  refine ⟨_, (pss_cons (ps_set (i := 1) sc_r_read_number.nd rfl (Or.inl rfl) (pe_fld (pv 0) rfl))
    (C8.pss_cut (ps_if (pt_cmpR op_eq (pe_me0 M_peek hr (by omega) pass0 (pv 0)) pe_str (nomark _)) (pss_cons (ps_fldaug (pv 0) pe_int in_add)
    (pss_one (ps_if (pt_cmpR op_eq (pe_me0 M_peek hr (by omega) pass0 (pv 0)) pe_str (nomark _)) (pss_one (Sup_at.ps_raise rfl T.x_BadPaper T.g_BadPaper hr (takes_of rfl rfl rfl rfl) (pa_cons (pe_fld (pv 0) rfl) pa_nil))) pss_nil))) pss_nil)
    (pss_cons (ps_if (pt_cmpR op_eq (pe_me0 M_peek hr (by omega) pass0 (pv 0)) pe_str (nomark _)) (pss_cons (ps_fldaug (pv 0) pe_int in_add)
    (pss_one (ps_ret pe_int))) pss_nil)
    (pss_cons (ps_set (i := 2) sc_r_read_number.nd rfl (Or.inl rfl) pe_int)
    (pss_cons (ps_while (passes_of rfl) (PW.pt (pw_and (pt_cmpR op_ne (pe_me0 M_peek hr (by omega) pass0 (pv 0)) pe_str (nomark _)) (pw_and (pt_cmpR op_in_str (pe_me0 M_peek hr (by omega) pass0 (pv 0)) pe_str rfl) (pw_and1 (pt_cmpR op_lt (pv 2) (pe_gi T.g_MOST_DIGITS) (nomark _)))))) (pss_cons (ps_fldaug (pv 0) pe_int in_add)
    (pss_one (ps_aug (i := 2) sc_r_read_number.nd rfl (Or.inl rfl) pe_int ip_add))))
    (pss_cons (ps_if (pt_cmpR op_eq (pv 2) pe_int (nomark _)) (pss_one (Sup_at.ps_raise rfl T.x_BadPaper T.g_BadPaper hr (takes_of rfl rfl rfl rfl) (pa_cons (pe_fld (pv 0) rfl) pa_nil))) pss_nil)
    (pss_one (ps_ret (pe_callTy call_int_str (by rfl) T.z_int b_int (pa_cons (pe_slice C8.sl_txt (pe_fld (pv 0) rfl) (po_some (pv 1)) (po_some (pe_fld (pv 0) rfl))) pa_nil)))))))))), ?_⟩
  refine ⟨_, rfl, p, CR, dx, _, _, rfl, hA.fld, T.cl, T.nP, rf_place _ _, ?_⟩
  refine ⟨fun σ' H' => ∃ o, σ' = [some (.ref p), some (.int (i : Int)), none] ∧ o ≤ s.length ∧ H' = upd H p (.ins CR dx (rf cs (i + o))) ∧ ((o = 1 ∧ s.head? = some 45 ∧ s.tail.head? ≠ some 48) ∨ (o = 0 ∧ s.head? ≠ some 45)), ?_, ?_⟩
  · refine ⟨_, rfl, p, dx, _, rfl, hA.fld, rf_no _ _ (by decide +kernel) (by decide +kernel), p, dx, cs, i, rfl, hA, hT, hi, rfl, _, rfl, ?_⟩
    rw [← hs]
    by_cases h45 : s.head? = some 45
    · have hs1 : 1 ≤ s.length := by cases s with | nil => simp at h45 | cons a r => simp
      refine ifT (eqT s_mi h45) ?_
      refine ⟨_, rfl, p, CR, dx, _, _, rfl, hA.fld, T.cl, T.nP, rf_place _ _, _, _, rfl, rfl, dx, _, hA.fld, by show 2 < 1000; decide, ?_⟩
      rw [rf_inc]
      refine ⟨_, rfl, p, dx, _, rfl, upd_same, rf_no _ _ (by decide +kernel) (by decide +kernel), p, dx, cs, i + 1, rfl, upd_at, hT, by omega, rfl, _, rfl, ?_⟩
      have e1 : cs.drop (i + 1) = s.tail := by rw [tail_drop]; exact drop_add hs.symm
      rw [e1]
      by_cases h48 : s.tail.head? = some 48
      · refine ifT (eqT s_0 h48) ?_
        refine ⟨_, rfl, p, CR, dx, _, _, rfl, upd_same, T.cl, T.nP, rf_place _ _, _, rfl, fun d hd' => ?_⟩
        have er : rdNum s = .bad 1 := by unfold rdNum; rw [if_pos h45, if_pos h48]
        rw [er] at k
        exact (Bad.later (H' := upd H p (.ins CR dx (rf cs (i + 1)))) (show Bad CB p E H (i + 1) from k) Keep.upd ⟨_, hA⟩ ⟨_, upd_same⟩).now d hd'
      · exact ifF (eqF s_0 h48) ⟨1, rfl, hs1, rfl, .inl ⟨rfl, h45, h48⟩⟩
    · exact ifF (eqF s_mi h45) ⟨0, rfl, Nat.zero_le _, hA.id.symm, .inr ⟨rfl, h45⟩⟩
  · rintro σ' H' ⟨o, rfl, hol, rfl, ho⟩
    have e1 : cs.drop (i + o) = s.drop o := drop_add hs.symm
    refine ⟨_, rfl, p, dx, _, rfl, upd_same, rf_no _ _ (by decide +kernel) (by decide +kernel), p, dx, cs, i + o, rfl, upd_at, hT, by omega, rfl, _, rfl, ?_⟩
    rw [e1]
    by_cases h48 : (s.drop o).head? = some 48
    · have hs1 : o < s.length := by
        by_cases z : o < s.length
        · exact z
        · rw [List.drop_eq_nil_of_le (by omega)] at h48; simp at h48
      refine ifT (eqT s_0 h48) ?_
      have ho0 : o = 0 ∧ s.head? ≠ some 45 := by
        rcases ho with ⟨rfl, _, z⟩ | z
        · rw [tail_drop] at z; exact absurd h48 z
        · exact z
      obtain ⟨rfl, h45⟩ := ho0
      rw [List.drop_zero] at h48
      refine ⟨_, rfl, p, CR, dx, _, _, rfl, upd_same, T.cl, T.nP, rf_place _ _, _, _, rfl, rfl, dx, _, upd_same, by show 2 < 1000; decide, ?_⟩
      rw [rf_inc, upd_upd]
      have er : rdNum s = .ok (.int 0) 1 := by unfold rdNum; rw [if_neg h45, if_pos h48]
      rw [er] at k
      exact k _ _ Keep.upd upd_at (.int 0)
    · refine ifF (eqF s_0 h48) ?_
      have hdl := digs_len (s.drop o)
      rw [List.length_drop] at hdl
      refine wh (fun (m : Nat) σ H' => m ≤ (digs (s.drop o)).length ∧ H' = upd H p (.ins CR dx (rf cs (i + o + m))) ∧ σ = [some (.ref p), some (.int (i : Int)), some (.int (m : Int))]) (fun m => (digs (s.drop o)).length - m) 0 ⟨Nat.zero_le _, rfl, rfl⟩ ?_
      rintro m σ H' ⟨hm, rfl, rfl⟩
      have e2 : cs.drop (i + o + m) = (s.drop o).drop m := drop_add e1
      have fin : m = (digs (s.drop o)).length → (tSeq (tIfS (tTest (tOp rEq (tVar 2) (tC (.int 0)))) (Sup_at.tRaise CB (fun cls d _ H => E cls d H) (tCons (tFld K (tVar 0) "place") tNil)) tNext)
          (tRet (tCB (fun xs H Q => ∃ a n, xs = [.str a] ∧ PySem.intText? a = some n ∧ a.length ≤ 640 ∧ Q (.int n) H) (tCons (tSl C8.rSlX (tFld K (tVar 0) "text") (tPart (tVar 1)) (tPart (tFld K (tVar 0) "place"))) tNil))))
          { nx := fun _ H' => Q .non H', rt := Q } [some (.ref p), some (.int (i : Int)), some (.int (m : Int))] (upd H p (.ins CR dx (rf cs (i + o + m)))) := by
        intro hml
        refine ⟨_, rfl, rfl, _, rfl, ?_⟩
        by_cases h0 : m = 0
        · subst h0
          have hde : digs (s.drop o) = [] := List.length_eq_zero_iff.mp hml.symm
          refine ifT (decide_eq_true (by simp)) ?_
          refine ⟨_, rfl, p, CR, dx, _, _, rfl, upd_same, T.cl, T.nP, rf_place _ _, _, rfl, fun d hd' => ?_⟩
          have er : rdNum s = .bad o := by
            unfold rdNum
            rcases ho with ⟨rfl, z1, z2⟩ | ⟨rfl, z1⟩
            · rw [if_pos z1, if_neg z2, tail_drop, if_pos hde]
            · rw [List.drop_zero] at hde h48
              rw [if_neg z1, if_neg h48, if_pos hde]
          rw [er] at k
          exact (Bad.later (H' := upd H p (.ins CR dx (rf cs (i + o)))) (show Bad CB p E H (i + o) from k) Keep.upd ⟨_, hA⟩ ⟨_, upd_same⟩).now d hd'
        · have hdne : digs (s.drop o) ≠ [] := fun z => h0 (by rw [hml, z]; rfl)
          refine ifF (by rw [decide_eq_false (by simpa using h0)]; decide) ?_
          refine ⟨_, rfl, p, CR, dx, _, _, rfl, upd_same, T.cl, T.nT, rf_text _ _, _, rfl, _, rfl, ?_⟩
          refine ⟨_, rfl, p, CR, dx, _, _, rfl, upd_same, T.cl, T.nP, rf_place _ _, _, rfl, _, rfl, hT.line, ?_⟩
          have h20 := digs_20 (s.drop o)
          have hdt : (s.drop o).take m = digs (s.drop o) := by rw [hml]; exact tw_take 20 (s.drop o)
          rcases ho with ⟨rfl, z1, z2⟩ | ⟨rfl, z1⟩
          · have e3 : Txt.slice (S cs) (some (i : Int)) (some ((i + 1 + m : Nat) : Int)) = S (45 :: digs (s.drop 1)) := by
              rw [slice2 (by omega) (by omega), ← hs, show i + 1 + m - i = m + 1 by omega]
              cases s with
              | nil => simp at z1
              | cons a r =>
                simp at z1; subst z1
                rw [List.take_succ_cons]
                rw [List.drop_succ_cons, List.drop_zero] at hdt ⊢
                rw [hdt]
            rw [e3]
            refine ⟨_, _, rfl, PySem.intText_neg (cs := digs (s.drop 1)) rfl (digs_all _) hdne (by rw [slen, List.length_cons]; omega), by rw [slen, List.length_cons]; omega, ?_⟩
            have er : rdNum s = .ok (.int (-((NumText.digitsVal (digs (s.drop 1)) : Nat) : Int))) (1 + (digs (s.drop 1)).length) := by
              unfold rdNum
              rw [if_pos z1, if_neg z2, tail_drop, if_neg hdne]
            rw [er] at k
            refine k _ _ Keep.upd ?_ (.int _)
            rw [← hml, show i + (1 + m) = i + 1 + m by omega]
            exact upd_at
          · rw [List.drop_zero] at hdt hdne hml h20 h48
            have e3 : Txt.slice (S cs) (some (i : Int)) (some ((i + 0 + m : Nat) : Int)) = S (digs s) := by
              rw [slice2 (by omega) (by omega), ← hs, show i + 0 + m - i = m by omega, hdt]
            rw [e3]
            refine ⟨_, _, rfl, PySem.intText_digits (digs_all s) hdne (by rw [slen]; omega), by rw [slen]; omega, ?_⟩
            have er : rdNum s = .ok (.int ((NumText.digitsVal (digs s) : Nat) : Int)) (digs s).length := by
              unfold rdNum
              rw [if_neg z1, if_neg h48, if_neg hdne]
            rw [er] at k
            refine k _ _ Keep.upd ?_ (.int _)
            rw [← hml, show i + m = i + 0 + m by omega]
            exact upd_at
      have stop : ∀ c, ((s.drop o).drop m).head? = some c → dig c = false → m = (digs (s.drop o)).length := fun c hc hd => by
        by_cases z : m < (digs (s.drop o)).length
        · obtain ⟨c', h1, h2, _⟩ := tw_in 20 (s.drop o) m z
          rw [hc] at h1; cases h1
          rw [hd] at h2; cases h2
        · omega
      refine ⟨_, rfl, p, dx, _, rfl, upd_same, rf_no _ _ (by decide +kernel) (by decide +kernel), p, dx, cs, i + o + m, rfl, upd_at, hT, by omega, rfl, _, rfl, ?_⟩
      rw [e2]
      cases hh : ((s.drop o).drop m).head? with
      | none =>
        refine ifF (by rw [decide_eq_true ((pk_nil s_e).mpr hh)]; decide) (ifF Bool.false_ne_true (fin ?_))
        by_cases z : m < (digs (s.drop o)).length
        · obtain ⟨c', h1, _⟩ := tw_in 20 (s.drop o) m z
          rw [hh] at h1; cases h1
        · omega
      | some c =>
        refine ifT (by rw [decide_eq_false (fun z => by rw [(pk_nil s_e).mp z] at hh; cases hh)]; rfl) ?_
        refine ⟨_, rfl, p, dx, _, rfl, upd_same, rf_no _ _ (by decide +kernel) (by decide +kernel), p, dx, cs, i + o + m, rfl, upd_at, hT, by omega, _, _, rfl, rfl, _, rfl, ?_⟩
        rw [e2, pk_one hh, in_digits]
        cases hd : dig c with
        | false => exact ifF Bool.false_ne_true (ifF Bool.false_ne_true (fin (stop c hh hd)))
        | true =>
          refine ifT rfl ?_
          refine ⟨_, rfl, _, _, rfl, rfl, _, rfl, ?_⟩
          by_cases h20 : m < 20
          · refine ifT (decide_eq_true (by omega)) ?_
            refine ⟨whN _ _ m, whN_ok, ?_⟩
            refine ⟨_, rfl, p, CR, dx, _, _, rfl, upd_same, T.cl, T.nP, rf_place _ _, _, _, rfl, rfl, dx, _, upd_same, by show 2 < 1000; decide, ?_⟩
            rw [rf_inc, upd_upd]
            refine ⟨_, rfl, _, _, rfl, rfl, ?_⟩
            have hmm := tw_more 20 (s.drop o) m c h20 hm hh hd
            exact ⟨m + 1, by show (digs (s.drop o)).length - (m + 1) < (digs (s.drop o)).length - m; unfold digs; omega, hmm, rfl, rfl⟩
          · refine ifF (by rw [decide_eq_false (by omega)]; decide) (fin ?_)
            have := digs_20 (s.drop o)
            omega
end
end Toy

set_option Elab.async false
set_option linter.all false
set_option maxRecDepth 100000
set_option maxHeartbeats 4000000
namespace Toy
open PySem L2 TL
open SX (S)
theorem shift_shift {α : Type} (a b : Nat) (r : Res α) : Res.shift a (Res.shift b r) = Res.shift (a + b) r := by
  cases r <;> simp [Res.shift, Nat.add_assoc]
section
variable {P : Program} {w : World} {K : PySem.W.Frag} {mg : Str → Option Value} {base : Heap} {CB fB cB dB CR : Addr}
theorem At.ne_list {H : Hp} {p dx D : Addr} {cs : List Nat} {i : Nat} {xs : List V} (h : At CR H p dx cs i) (hD : H D = some (.lst xs)) : D ≠ p := ne_of hD h (fun z => nomatch z)
theorem At.tups {H H' : Hp} {p dx : Addr} {cs : List Nat} {i : Nat} (h : At CR H p dx cs i) (k : Keep p H H') : ∀ b xs, H b = some (.tup xs) → H' b = some (.tup xs) := fun b xs e => k b _ (ne_of e h (fun z => nomatch z)) e
theorem spRead_ok {k : Nat} {vs : List V} {H : Hp} {Q : VK} {E : XK} {p dx : Addr} {cs : List Nat} {i : Nat} (e : vs = [.ref p, .int (60 - (k : Int))]) (hA : At CR H p dx cs i) (hT : okT cs) (hi : i ≤ cs.length) (h : Ends CR CB p dx cs i H Q E (rd k (cs.drop i))) : spRead CR CB k vs H Q E :=
  ⟨p, dx, cs, i, e, hA, hT, hi, h⟩
abbrev s_r_read_parts : Stmt := inClass (top 7) 5
theorem sc_r_read_parts : FnScope ["self", "depth", "parts"] ["self", "depth"] (defScope s_r_read_parts) := ⟨rfl, rfl, rfl, by decide +kernel, rfl, by decide +kernel, by decide +kernel⟩

theorem ok_r_parts {k : Nat} {n : Nat} (hn : 2 ≤ n) {f : Addr} {fd : FuncData} (F : Fun K "read_parts" "PaperReader.read_parts" s_r_read_parts f fd) (T : Txt P K mg CB fB cB dB CR) (M_peek : MetX P w K mg base CX0 1 CR "peek" (spPeek CR))
    (M_skip : MetX P w K mg base (L2.CX P w) 2 CR "skip" (spSkip CR CB)) (hk60 : k ≤ 60) (sp : Sp) (hsp : ∀ k', k = k' + 1 → sp = spRead CR CB k') (M_read_paper : MetX P w K mg base (L2.CX P w) n CR "read_paper" sp) :
    FnOk P w K mg base (L2.CX P w) (n + 1) f fd ["self", "depth"] (spParts CR CB k) := by
  refine F.okX sc_r_read_parts (fun vs H Q E h => ?_) (fun cdv A outer s0 H vs Q E hr h => ?_)
  · obtain ⟨p, dx, cs, i, t, rfl, _⟩ := h
    rfl
  obtain ⟨p, dx, cs, i, t, rfl, hA, hT, hi, ht, kk⟩ := h
  obtain ⟨ht1, hlen⟩ := drop_of ht
  have hT2 := hT.2
  have hr : Room n _ := hr
  refine ⟨_, (pss_cons (ps_if (pt_cmpR op_eq (pv 1) (pe_gi T.g_MOST_DEPTH) (nomark _)) (pss_one (Sup_at.ps_raise rfl T.x_BadPaper T.g_BadPaper hr (takes_of rfl rfl rfl rfl) (pa_cons (pe_fld (pv 0) rfl) pa_nil))) pss_nil)
    (pss_cons (ps_expr (pe_me M_skip hr (by omega) (passes_call (takes_of rfl rfl rfl rfl) fun _ _ _ _ h => h) (pv 0) (pa_cons pe_str pa_nil)))
    (pss_cons (ps_set (i := 2) sc_r_read_parts.nd rfl (Or.inl rfl) (pe_lst pa_nil))
    (pss_cons (ps_while (passes_of rfl) (pt_cmpR op_ne (pe_me0 M_peek hr (by omega) pass0 (pv 0)) pe_str (nomark _)) (C8.pss_cut (ps_if (pt_truth (pv 2) (by intro _; rfl)) (pss_one (ps_expr (pe_me M_skip hr (by omega) (passes_call (takes_of rfl rfl rfl rfl) fun _ _ _ _ h => h) (pv 0) (pa_cons pe_str pa_nil)))) pss_nil)
    (pss_one (ps_expr (pe_bm PySem.F.plainAttrs_list PySem.F.slot_list_append PySem.F.type_list_append mt_append (pv 2) (pa_cons (pe_me M_read_paper hr (by omega) (passes_call (takes_of rfl rfl rfl rfl) fun _ _ _ _ h => h) (pv 0) (pa_cons (pe_op op_add (pv 1) pe_int) pa_nil)) pa_nil))))))
    (pss_cons (ps_expr (pe_me M_skip hr (by omega) (passes_call (takes_of rfl rfl rfl rfl) fun _ _ _ _ h => h) (pv 0) (pa_cons pe_str pa_nil)))
    (pss_one (ps_ret (pe_callTy call_tuple_of (by rfl) T.z_tuple b_tuple (pa_cons (pv 2) pa_nil))))))))), ?_⟩
  refine ⟨_, rfl, rfl, _, rfl, ?_⟩
  cases k with
  | zero =>
    refine ifT rfl ?_
    rw [rd_zero] at kk
    refine ⟨_, rfl, p, CR, dx, _, _, rfl, hA.fld, T.cl, T.nP, rf_place _ _, _, rfl, ?_⟩
    exact (show Bad CB p E H (i + 0) from kk).now
  | succ k =>
    have hs := hsp k rfl
    subst hs
    rw [rd_tup] at kk
    refine ifF (by rw [decide_eq_false (by simp; omega)]; decide) ?_
    refine ⟨_, rfl, p, dx, _, rfl, hA.fld, rf_no _ _ (by decide +kernel) (by decide +kernel), p, dx, cs, i, 40, by rw [s_op]; rfl, hA, hT, hi, fun _ => ?_, fun h => absurd (by rw [ht]; rfl) h⟩
    refine ⟨by show 0 ≤ sizeLine; decide, fun D hD => ?_⟩
    have hDp : D ≠ p := fun z => by rw [z, upd_same] at hD; cases hD
    have hD0 : H D = none := by rw [upd_ne hDp] at hD; exact hD
    refine wh (fun (g : Nat × List Paper) σ H' => g.1 ≤ t.length ∧ g.2.length ≤ g.1 ∧ loop (rd k) true t [] = Res.shift g.1 (loop (rd k) g.2.isEmpty (t.drop g.1) g.2) ∧ Keep p H H' ∧ At CR H' p dx cs (i + 1 + g.1) ∧
        (∃ vs, H' D = some (.lst vs) ∧ PVs H' vs g.2) ∧ σ = [some (.ref p), some (.int (60 - ((k + 1 : Nat) : Int))), some (.ref D)]) (fun g => t.length - g.1) (0, [])
      ⟨Nat.zero_le _, Nat.le_refl _, ?_, keep_updN Keep.upd hD0, by show upd (upd H p _) D _ p = _; rw [upd_ne (Ne.symm hDp)]; exact upd_same, ⟨[], upd_same, .nil⟩, rfl⟩ ?_
    · cases e : loop (rd k) true t [] <;> simp [Res.shift, e]
    rintro ⟨j, ps⟩ σ H' ⟨hj, hpj, hR, kH, hA', ⟨vs, hd, hvs⟩, rfl⟩
    have hj : j ≤ t.length := hj
    have hpj : ps.length ≤ j := hpj
    have hR : loop (rd k) true t [] = Res.shift j (loop (rd k) ps.isEmpty (t.drop j) ps) := hR
    have hA' : At CR H' p dx cs (i + 1 + j) := hA'
    have hvs : PVs H' vs ps := hvs
    have hvl : vs.length = ps.length := hvs.length
    have e1 : cs.drop (i + 1 + j) = t.drop j := drop_add ht1
    refine ⟨_, rfl, p, dx, _, rfl, hA', rf_no _ _ (by decide +kernel) (by decide +kernel), p, dx, cs, i + 1 + j, rfl, hA', hT, by omega, rfl, _, rfl, ?_⟩
    rw [e1]
    by_cases h41 : (t.drop j).head? = some 41
    · refine ifF (neF s_cl h41) ?_
      have hjt : j < t.length := by
        by_cases z : j < t.length
        · exact z
        · rw [List.drop_eq_nil_of_le (by omega)] at h41; simp at h41
      rw [loop_end h41] at hR
      rw [hR] at kk
      refine ⟨_, rfl, p, dx, _, rfl, hA', rf_no _ _ (by decide +kernel) (by decide +kernel), p, dx, cs, i + 1 + j, 41, by rw [s_cl]; rfl, hA', hT, by omega, fun _ => ?_, fun h => absurd (by rw [e1]; exact h41) h⟩
      refine ⟨_, rfl, D, vs, rfl, .inl ⟨SqL.of (by rw [upd_ne hDp]; exact hd), fun q hq => ?_⟩⟩
      have hqp : q ≠ p := fun z => by rw [z, upd_same] at hq; cases hq
      have hq0 : H' q = none := by rw [upd_ne hqp] at hq; exact hq
      have tu : ∀ b xs, H' b = some (.tup xs) → upd (upd H' p (.ins CR dx (rf cs (i + 1 + j + 1)))) q (.tup vs) b = some (.tup xs) := fun b xs e => by
        rw [upd_ne (ne_of_none e hq0)]
        exact hA'.tups Keep.upd b xs e
      refine kk _ _ ((kH.trans Keep.upd).trans (Keep.new hq)) ?_ (.tup upd_same (by omega) (hvs.mono tu))
      show upd (upd H' p _) q _ p = _
      rw [upd_ne (Ne.symm hqp), show i + (1 + (j + 1)) = i + 1 + j + 1 by omega]
      exact upd_same
    · refine ifT (neT s_cl h41) ?_
      refine ⟨_, whN_ok (μ := fun g : Nat × List Paper => t.length - g.1) (a := (j, ps)), ?_⟩
      refine ⟨fun σ' H'' => σ' = [some (.ref p), some (.int (60 - ((k + 1 : Nat) : Int))), some (.ref D)] ∧ (ps.isEmpty = true ∨ (t.drop j).head? = some 32) ∧ Keep p H' H'' ∧ At CR H'' p dx cs (i + 1 + j + off ps.isEmpty) ∧ H'' D = some (.lst vs) ∧ PVs H'' vs ps ∧ off ps.isEmpty + j ≤ t.length, ?_, ?_⟩
      · refine ⟨_, rfl, _, .inl ⟨_, SqL.of hd, rfl⟩, ?_⟩
        cases ps with
        | nil =>
          cases hvs
          refine ifF (by decide) ⟨rfl, .inl rfl, Keep.refl _ _, hA', hd, .nil, by show 0 + j ≤ _; omega⟩
        | cons q r =>
          cases vs with
          | nil => simp at hvl
          | cons v r' =>
          refine ifT rfl ?_
          refine ⟨_, rfl, p, dx, _, rfl, hA', rf_no _ _ (by decide +kernel) (by decide +kernel), p, dx, cs, i + 1 + j, 32, by rw [s_sp]; rfl, hA', hT, by omega, fun h => ?_, fun h => ?_⟩
          · rw [e1] at h
            have hjt : j < t.length := by
              by_cases z : j < t.length
              · exact z
              · rw [List.drop_eq_nil_of_le (by omega)] at h; simp at h
            exact ⟨rfl, .inr h, Keep.upd, upd_at, by rw [upd_ne hDp]; exact hd, hvs.mono (fun b xs e => hA'.tups Keep.upd b xs e), by show 1 + j ≤ _; omega⟩
          · rw [e1] at h
            have e2 : (q :: r).isEmpty = false := rfl
            rw [e2, loop_gap h41 h] at hR
            rw [hR] at kk
            have b := Bad.later (show Bad CB p E H (i + (1 + (j + 0))) from kk) kH ⟨_, hA⟩ ⟨_, hA'⟩
            rw [show i + (1 + (j + 0)) = i + 1 + j by omega] at b
            exact b
      · rintro σ' H'' ⟨rfl, hor, kH2, hA2, hd2, hvs2, hoj⟩
        have e3 : cs.drop (i + 1 + j + off ps.isEmpty) = (t.drop j).drop (off ps.isEmpty) := drop_add e1
        refine ⟨_, rfl, .inl ⟨rfl, _, SqL.of hd2⟩, ?_⟩
        refine ⟨_, rfl, p, dx, _, rfl, hA2, rf_no _ _ (by decide +kernel) (by decide +kernel), _, rfl, _, _, rfl, rfl, spRead_ok (by simp; omega) hA2 hT (by omega) ?_⟩
        rw [e3]
        cases e : rd k ((t.drop j).drop (off ps.isEmpty)) with
        | bad m =>
          rw [loop_bad h41 hor e] at hR
          rw [hR] at kk
          have b := Bad.later (show Bad CB p E H (i + (1 + (j + (off ps.isEmpty + m)))) from kk) (kH.trans kH2) ⟨_, hA⟩ ⟨_, hA2⟩
          rw [show i + (1 + (j + (off ps.isEmpty + m))) = i + 1 + j + off ps.isEmpty + m by omega] at b
          exact b
        | ok q m =>
          have hsz := rd_size k _ e
          rw [List.length_drop, List.length_drop] at hsz
          rw [loop_ok h41 hor e ⟨hsz.1, by rw [List.length_drop]; omega⟩, shift_shift, List.drop_drop] at hR
          intro v H3 k3 hA3 pv
          have hd3 : H3 D = some (.lst vs) := k3 _ _ hDp hd2
          refine ⟨D, vs, v, rfl, rfl, hd3, Nat.lt_of_le_of_lt (show vs.length ≤ 100000 by have := hT.2; omega) (by rw [sizeLine_eq]; decide), ?_⟩
          have tu := upd_tups (ys := vs ++ [v]) hd3
          refine ⟨(j + (off ps.isEmpty + m), ps ++ [q]), by show t.length - (j + (off ps.isEmpty + m)) < t.length - j; omega, by show j + (off ps.isEmpty + m) ≤ t.length; omega, by show (ps ++ [q]).length ≤ j + (off ps.isEmpty + m); rw [List.length_append, List.length_singleton]; omega, ?_, ?_, ?_, ⟨vs ++ [v], upd_same, ?_⟩, rfl⟩
          · have e4 : (ps ++ [q]).isEmpty = false := by cases ps <;> rfl
            show loop (rd k) true t [] = Res.shift (j + (off ps.isEmpty + m)) (loop (rd k) (ps ++ [q]).isEmpty (t.drop (j + (off ps.isEmpty + m))) (ps ++ [q]))
            rw [e4]
            exact hR
          · exact keep_updN (kH.trans (kH2.trans k3)) hD0
          · show upd H3 D _ p = _
            rw [upd_ne (Ne.symm hDp), show i + 1 + (j + (off ps.isEmpty + m)) = i + 1 + j + off ps.isEmpty + m by omega]
            exact hA3
          · exact (hvs2.mono (fun b xs e => tu b xs (hA2.tups k3 b xs e))).snoc (pv.mono tu)
theorem none_at {c : Nat} {j : Nat} (h : (Str.ofString "none").cps[j]? = some c) : j < 4 ∧ [110, 111, 110, 101][j]? = some c := by
  rw [s_none] at h
  have e : (S [110, 111, 110, 101]).cps[j]? = [110, 111, 110, 101][j]? := by simp [SX.S]
  rw [e] at h
  exact ⟨(List.getElem?_eq_some_iff.mp h).1, h⟩
theorem none_step {t : List Nat} {j c : Nat} (hj : j < 4) (hc : [110, 111, 110, 101][j]? = some c) (hm : ∀ m, m < j → (110 :: t)[m]? = [110, 111, 110, 101][m]?) (h : (110 :: t)[j]? ≠ some c) : rdNone t = .bad j := by
  unfold rdNone
  have : j = 0 ∨ j = 1 ∨ j = 2 ∨ j = 3 := by omega
  rcases this with rfl | rfl | rfl | rfl
  · simp at hc; subst hc; simp at h
  · simp at hc; subst hc
    rw [if_pos (by simpa using h)]
  · simp at hc; subst hc
    have h1 := hm 1 (by omega)
    rw [if_neg (by simpa using h1), if_pos (by simpa using h)]
  · simp at hc; subst hc
    have h1 := hm 1 (by omega)
    have h2 := hm 2 (by omega)
    rw [if_neg (by simpa using h1), if_neg (by simpa using h2), if_pos (by simpa using h)]
theorem none_all {t : List Nat} (hm : ∀ m, m < 4 → (110 :: t)[m]? = [110, 111, 110, 101][m]?) : rdNone t = .ok .non 4 := by
  unfold rdNone
  have h1 := hm 1 (by omega)
  have h2 := hm 2 (by omega)
  have h3 := hm 3 (by omega)
  rw [if_neg (by simpa using h1), if_neg (by simpa using h2), if_neg (by simpa using h3)]
theorem Ends.at {H : Hp} {Q : VK} {E : XK} {p dx : Addr} {cs : List Nat} {i : Nat} {r r' : Res Paper} (h : Ends CR CB p dx cs i H Q E r) (e : r = r') : Ends CR CB p dx cs i H Q E r' := e ▸ h
abbrev s_r_read_paper : Stmt := inClass (top 7) 6
theorem sc_r_read_paper : FnScope ["self", "depth", "sign", "letter"] ["self", "depth"] (defScope s_r_read_paper) := ⟨rfl, rfl, rfl, by decide +kernel, rfl, by decide +kernel, by decide +kernel⟩

theorem ok_r_read {k n : Nat} (hn : 3 ≤ n) {f : Addr} {fd : FuncData} (F : Fun K "read_paper" "PaperReader.read_paper" s_r_read_paper f fd) (T : Txt P K mg CB fB cB dB CR) (M_peek : MetX P w K mg base CX0 1 CR "peek" (spPeek CR))
    (M_skip : MetX P w K mg base (L2.CX P w) 2 CR "skip" (spSkip CR CB)) (M_read_string : MetX P w K mg base (L2.CX P w) 3 CR "read_string" (spStr CR CB)) (M_read_number : MetX P w K mg base (L2.CX P w) 3 CR "read_number" (spNum CR CB))
    (M_read_parts : MetX P w K mg base (L2.CX P w) n CR "read_parts" (spParts CR CB k)) : FnOk P w K mg base (L2.CX P w) (n + 1) f fd ["self", "depth"] (spRead CR CB k) := by
  refine F.okX sc_r_read_paper (fun vs H Q E h => ?_) (fun cdv A outer s0 H vs Q E hr h => ?_)
  · obtain ⟨p, dx, cs, i, rfl, _⟩ := h
    rfl
  obtain ⟨p, dx, cs, i, rfl, hA, hT, hi, kk⟩ := h
  have hr : Room n _ := hr
  obtain ⟨s, hs⟩ : ∃ s, s = cs.drop i := ⟨_, rfl⟩
  rw [← hs] at kk
  refine ⟨_, (pss_cons (ps_set (i := 2) sc_r_read_paper.nd rfl (Or.inl rfl) (pe_me0 M_peek hr (by omega) pass0 (pv 0)))
    (pss_cons (ps_if (pt_cmpR op_eq (pv 2) pe_str (nomark _)) (pss_one (ps_ret (pe_me M_read_parts hr (by omega) (passes_call (takes_of rfl rfl rfl rfl) fun _ _ _ _ h => h) (pv 0) (pa_cons (pv 1) pa_nil)))) pss_nil)
    (pss_cons (ps_if (pt_cmpR op_eq (pv 2) pe_str (nomark _)) (pss_one (ps_ret (pe_me0 M_read_string hr (by omega) (passes_call (takes_of rfl rfl rfl rfl) fun _ _ _ _ h => h) (pv 0)))) pss_nil)
    (pss_cons (ps_if (pt_cmpR op_eq (pv 2) pe_str (nomark _)) (pss_cons (ps_for (passes_of rfl) rfl (pi_str pe_str) (pg_name (i := 3) sc_r_read_paper.nd rfl (Or.inl rfl)) (pss_one (ps_expr (pe_me M_skip hr (by omega) (passes_call (takes_of rfl rfl rfl rfl) fun _ _ _ _ h => h) (pv 0) (pa_cons (pv 3) pa_nil)))))
    (pss_one (ps_ret pe_non))) pss_nil)
    (pss_one (ps_ret (pe_me0 M_read_number hr (by omega) (passes_call (takes_of rfl rfl rfl rfl) fun _ _ _ _ h => h) (pv 0)))))))), ?_⟩
  refine ⟨_, rfl, p, dx, _, rfl, hA.fld, rf_no _ _ (by decide +kernel) (by decide +kernel), p, dx, cs, i, rfl, hA, hT, hi, ?_⟩
  rw [← hs]
  refine ⟨_, rfl, rfl, _, rfl, ?_⟩
  by_cases h40 : s.head? = some 40
  · refine ifT (eqT s_op h40) ?_
    obtain ⟨t, rfl⟩ : ∃ t, s = 40 :: t := by cases s with | nil => simp at h40 | cons a r => simp at h40; exact ⟨r, by rw [h40]⟩
    exact ⟨_, rfl, p, dx, _, rfl, hA.fld, rf_no _ _ (by decide +kernel) (by decide +kernel), _, rfl, p, dx, cs, i, t, rfl, hA, hT, hi, hs.symm, kk⟩
  refine ifF (eqF s_op h40) ?_
  refine ⟨_, rfl, rfl, _, rfl, ?_⟩
  by_cases h34 : s.head? = some 34
  · refine ifT (eqT s_q h34) ?_
    obtain ⟨t, rfl⟩ : ∃ t, s = 34 :: t := by cases s with | nil => simp at h34 | cons a r => simp at h34; exact ⟨r, by rw [h34]⟩
    exact ⟨_, rfl, p, dx, _, rfl, hA.fld, rf_no _ _ (by decide +kernel) (by decide +kernel), p, dx, cs, i, t, rfl, hA, hT, hi, hs.symm, kk.at (rd_str k t)⟩
  refine ifF (eqF s_q h34) ?_
  refine ⟨_, rfl, rfl, _, rfl, ?_⟩
  by_cases h110 : s.head? = some 110
  · refine ifT (eqT s_n h110) ?_
    obtain ⟨t, rfl⟩ : ∃ t, s = 110 :: t := by cases s with | nil => simp at h110 | cons a r => simp at h110; exact ⟨r, by rw [h110]⟩
    rw [rd_none] at kk
    have hsl : (110 :: t).length + i = cs.length := by rw [hs, List.length_drop]; omega
    refine ⟨_, rfl, for_str (fun j σ H' => j ≤ (110 :: t).length ∧ Keep p H H' ∧ At CR H' p dx cs (i + j) ∧ (∀ m, m < j → (110 :: t)[m]? = [110, 111, 110, 101][m]?) ∧ ∃ g, σ = [some (.ref p), some (.int (60 - (k : Int))), some (.str (pk (110 :: t))), g])
      ⟨Nat.zero_le _, Keep.refl _ _, hA, fun m hm => by omega, _, rfl⟩ (fun j c σ H' hc h => ?_) (fun σ H' h => ?_)⟩
    · obtain ⟨hjl, kH, hA', hm, g, rfl⟩ := h
      obtain ⟨hj, hc'⟩ := none_at hc
      have e1 : cs.drop (i + j) = (110 :: t).drop j := drop_add hs.symm
      refine ⟨_, rfl, p, dx, _, rfl, hA', rf_no _ _ (by decide +kernel) (by decide +kernel), _, rfl, p, dx, cs, i + j, c, rfl, hA', hT, by omega, fun h => ?_, fun h => ?_⟩
      · rw [e1, head_drop] at h
        have hjt := (List.getElem?_eq_some_iff.mp h).1
        refine ⟨by omega, kH.trans Keep.upd, upd_at, fun m hm' => ?_, _, rfl⟩
        by_cases z : m < j
        · exact hm m z
        · have : m = j := by omega
          subst this
          rw [h, hc']
      · rw [e1, head_drop] at h
        rw [none_step hj hc' hm h] at kk
        exact Bad.later (show Bad CB p E H (i + j) from kk) kH ⟨_, hA⟩ ⟨_, hA'⟩
    · obtain ⟨hjl, kH, hA', hm, g, rfl⟩ := h
      have e4 : (Str.ofString "none").cps.size = 4 := by rw [s_none]; rfl
      rw [e4] at hm hA'
      rw [none_all hm] at kk
      exact kk _ _ kH hA' .non
  · refine ifF (eqF s_n h110) ?_
    exact ⟨_, rfl, p, dx, _, rfl, hA.fld, rf_no _ _ (by decide +kernel) (by decide +kernel), p, dx, cs, i, rfl, hA, hT, hi, by rw [← hs]; exact kk.at (rd_num k s h34 h110 h40)⟩
/-- read_paper(text) -/
def spReadF (CB : Addr) : Sp := fun vs H Q E => ∃ cs, vs = [.str (S cs)] ∧ okT cs ∧ match told cs with
  | .paper q => ∀ v H', Same H H' → PV H' v q → Q v H'
  | .bad n => ∀ dd H', Same H H' → H dd = none → H' dd = some (.xd [(("at" : Str), .int (n : Int))]) → E (.ref CB) (some dd) H'
theorem same_of {H H0 H' : Hp} {p : Addr} (s : Same H H0) (hp : H p = none) (k : Keep p H0 H') : Same H H' := fun b o e => k b o (ne_of_none e hp) (s b o e)
abbrev s_read_paper : Stmt := top 8
theorem sc_read_paper : FnScope ["text", "reader", "paper"] ["text"] (defScope s_read_paper) := ⟨rfl, rfl, rfl, by decide +kernel, rfl, by decide +kernel, by decide +kernel⟩

theorem ok_readF {n : Nat} (hn : 1 ≤ n) {f : Addr} {fd : FuncData} (F : Fun K "read_paper" "read_paper" s_read_paper f fd) (T : Txt P K mg CB fB cB dB CR) (N_PaperReader : MakX P w K mg base CX0 1 "PaperReader" CR (spInit CR))
    (M_read_paper : MetX P w K mg base (L2.CX P w) (n + 1) CR "read_paper" (spRead CR CB 60)) : FnOk P w K mg base (L2.CX P w) (n + 2) f fd ["text"] (spReadF CB) := by
  refine F.okX sc_read_paper (fun vs H Q E h => ?_) (fun cdv A outer s0 H vs Q E hr h => ?_)
  · obtain ⟨cs, rfl, _⟩ := h
    rfl
  obtain ⟨cs, rfl, hT, kk⟩ := h
  have hr : Room (n + 1) _ := hr
  unfold told at kk
  refine ⟨_, (pss_cons (ps_set (i := 1) sc_read_paper.nd rfl (Or.inl rfl) (pe_n N_PaperReader hr (by omega) pass0 (pa_cons (pv 0) pa_nil)))
    (pss_cons (ps_set (i := 2) sc_read_paper.nd rfl (Or.inl rfl) (pe_me M_read_paper hr (by omega) (passes_call (takes_of rfl rfl rfl rfl) fun _ _ _ _ h => h) (pv 1) (pa_cons pe_int pa_nil)))
    (pss_cons (ps_if (pt_cmpR op_lt (pe_fld (pv 1) rfl) (pe_callB call_len (by rfl) T.z_len b_len (pa_cons (pv 0) pa_nil)) (nomark _)) (pss_one (Sup_at.ps_raise rfl T.x_BadPaper T.g_BadPaper hr (takes_of rfl rfl rfl rfl) (pa_cons (pe_fld (pv 1) rfl) pa_nil))) pss_nil)
    (pss_one (ps_ret (pv 2)))))), ?_⟩
  refine ⟨_, rfl, fun p dx hp hdx hne => ⟨p, dx, cs, rfl, upd_same, rfl, ?_⟩⟩
  rw [upd_upd]
  have s0 : Same H (upd (upd H dx (.own p)) p (.ins CR dx (rf cs 0))) := fun b o e => by
    rw [upd_ne (ne_of_none e hp), upd_ne (ne_of_none e hdx)]; exact e
  refine ⟨_, rfl, p, dx, _, rfl, upd_same, rf_no _ _ (by decide +kernel) (by decide +kernel), p, dx, cs, 0, rfl, upd_at, hT, Nat.zero_le _, ?_⟩
  rw [List.drop_zero]
  have fresh : ∀ {dd : Addr} {H' : Hp}, Keep p (upd (upd H dx (.own p)) p (.ins CR dx (rf cs 0))) H' → H' dd = none → H dd = none := fun {dd H'} k h => by
    cases e : H dd with
    | none => rfl
    | some o => rw [k _ _ (ne_of_none e hp) (s0 _ _ e)] at h; cases h
  cases e : rd 60 cs with
  | bad m =>
    rw [e] at kk
    intro dd H' k hn' hx
    refine kk dd H' (same_of s0 hp k) (fresh (Keep.refl _ _) hn') ?_
    rw [Nat.zero_add] at hx
    exact hx
  | ok q m =>
    have hsz := rd_size 60 cs e
    rw [e] at kk
    intro v H' k hA pv
    rw [Nat.zero_add] at hA
    refine ⟨_, rfl, p, CR, dx, _, _, rfl, hA, T.cl, T.nP, rf_place _ _, _, rfl, _, _, rfl, ⟨hT.line, rfl⟩, _, _, rfl, rfl, _, rfl, ?_⟩
    by_cases hm : m < cs.length
    · refine ifT (decide_eq_true (by rw [slen]; omega)) ?_
      simp only [if_pos hm] at kk
      refine ⟨_, rfl, p, CR, dx, _, _, rfl, hA, T.cl, T.nP, rf_place _ _, _, rfl, fun dd hdd => ?_⟩
      exact kk dd _ ((same_of s0 hp k).trans (Same.upd hdd)) (fresh k hdd) upd_same
    · refine ifF (by rw [decide_eq_false (by rw [slen]; omega)]; decide) ?_
      simp only [if_neg hm] at kk
      exact ⟨_, rfl, kk _ _ (same_of s0 hp k) pv⟩
end
end Toy

set_option Elab.async false
set_option linter.all false
set_option maxRecDepth 100000
set_option maxHeartbeats 4000000
namespace Toy
open PySem L2 TL
open SX (S)
/-- what the law's reader hands back, from the place i -/
def RT (H : Hp) (v : V) (i : Nat) : Res Paper → Prop
  | .ok q n => ∃ a b u, v = .ref a ∧ H a = some (.tup [.ref b, .int ((i + n : Nat) : Int)]) ∧ H b = some (.tup [u]) ∧ PV H u q
  | .bad n => ∃ a, v = .ref a ∧ H a = some (.tup [.non, .int ((i + n : Nat) : Int)])
def spLNum : Sp := fun vs H Q _ => ∃ cs i, vs = [.str (S cs), .int ((i : Nat) : Int)] ∧ okT cs ∧ i ≤ cs.length ∧ ∀ v H', Same H H' → RT H' v i (rdNum (cs.drop i)) → Q v H'
def spLRead (k : Nat) : Sp := fun vs H Q _ => ∃ cs i, vs = [.str (S cs), .int ((i : Nat) : Int), .int (60 - (k : Int))] ∧ okT cs ∧ i ≤ cs.length ∧ ∀ v H', Same H H' → RT H' v i (rd k (cs.drop i)) → Q v H'
section
variable {P : Program} {w : World} {K : PySem.W.Frag} {mg : Str → Option Value} {base : Heap} {CB fB cB dB CR : Addr}
theorem at_char {cs : List Nat} {i c : Nat} (h : (cs.drop i).head? = some c) : (S cs).cps[((i : Nat) : Int).toNat]? = some c ∧ i < cs.length := by
  rw [head_drop] at h
  refine ⟨?_, (List.getElem?_eq_some_iff.mp h).1⟩
  rw [show ((i : Nat) : Int).toNat = i by omega]
  simpa [SX.S] using h
theorem head_lt {cs : List Nat} {i : Nat} (h : i < cs.length) : ∃ c, (cs.drop i).head? = some c := by
  rw [head_drop]; exact ⟨cs[i], List.getElem?_eq_getElem h⟩
theorem bad_made {H : Hp} {p : Addr} {i n : Nat} : RT (upd H p (.tup [.non, .int ((i + n : Nat) : Int)])) (.ref p) i (.bad n) := ⟨p, rfl, upd_same⟩
theorem ok_made {H : Hp} {b p : Addr} {u : V} {q : Paper} {i n : Nat} (hp : upd H b (.tup [u]) p = none) (pv : PV H u q) (hb : H b = none) : RT (upd (upd H b (.tup [u])) p (.tup [.ref b, .int ((i + n : Nat) : Int)])) (.ref p) i (.ok q n) := by
  have hbp : b ≠ p := fun z => by rw [z, upd_same] at hp; cases hp
  refine ⟨p, b, u, rfl, upd_same, by rw [upd_ne hbp]; exact upd_same, pv.same ((Same.upd hb).trans (Same.upd hp))⟩
abbrev s_l_read_number : Stmt := top 17
theorem sc_l_read_number : FnScope ["text", "at", "start", "first"] ["text", "at"] (defScope s_l_read_number) := ⟨rfl, rfl, rfl, by decide +kernel, rfl, by decide +kernel, by decide +kernel⟩

theorem ok_l_number {f : Addr} {fd : FuncData} (F : Fun K "_law_read_number" "_law_read_number" s_l_read_number f fd) (T : Txt P K mg CB fB cB dB CR) : FnOk P w K mg base CX0 1 f fd ["text", "at"] spLNum := by
  refine F.ok sc_l_read_number (fun vs H Q E h => ?_) (fun cdv A outer s0 H vs Q E hr h => ?_)
  · obtain ⟨cs, i, rfl, _⟩ := h
    rfl
  obtain ⟨cs, i, rfl, hT, hi, k⟩ := h
  obtain ⟨s, hs⟩ : ∃ s, s = cs.drop i := ⟨_, rfl⟩
  rw [← hs] at k
  have hT2 := hT.2
  have hsl : s.length + i = cs.length := by rw [hs, List.length_drop]; omega
  refine ⟨_, (pss_cons (ps_set (i := 2) sc_l_read_number.nd rfl (Or.inl rfl) (pv 1))
    (C8.pss_cut (ps_if (pt_cmpR op_eq (pe_slice C8.sl_txt (pv 0) (po_some (pv 1)) (po_some (pe_op op_add (pv 1) pe_int))) pe_str (nomark _)) (pss_cons (ps_aug (i := 1) sc_l_read_number.nd rfl (Or.inl rfl) pe_int ip_add)
    (pss_one (ps_if (pt_cmpR op_eq (pe_slice C8.sl_txt (pv 0) (po_some (pv 1)) (po_some (pe_op op_add (pv 1) pe_int))) pe_str (nomark _)) (pss_one (ps_ret (pe_tup (pa_cons pe_non (pa_cons (pv 1) pa_nil))))) pss_nil))) pss_nil)
    (pss_cons (ps_if (pt_cmpR op_eq (pe_slice C8.sl_txt (pv 0) (po_some (pv 1)) (po_some (pe_op op_add (pv 1) pe_int))) pe_str (nomark _)) (pss_one (ps_ret (pe_tup (pa_cons (pe_tup (pa_cons pe_int pa_nil)) (pa_cons (pe_op op_add (pv 1) pe_int) pa_nil))))) pss_nil)
    (pss_cons (ps_set (i := 3) sc_l_read_number.nd rfl (Or.inl rfl) (pv 1))
    (pss_cons (ps_while PassesOwn.never (PW.pt (pw_and (pt_cmpR op_lt (pv 1) (pe_callB call_len (by rfl) T.z_len b_len (pa_cons (pv 0) pa_nil)) (nomark _)) (pw_and (pt_cmpR op_in_str (pe_item_str (pv 0) (pv 1) (fun _ _ => rfl)) pe_str rfl) (pw_and1 (pt_cmpR op_lt (pe_op op_sub (pv 1) (pv 3)) pe_int (nomark _)))))) (pss_one (ps_aug (i := 1) sc_l_read_number.nd rfl (Or.inl rfl) pe_int ip_add)))
    (pss_cons (ps_if (pt_cmpR op_eq (pv 1) (pv 3) (nomark _)) (pss_one (ps_ret (pe_tup (pa_cons pe_non (pa_cons (pv 1) pa_nil))))) pss_nil)
    (pss_one (ps_ret (pe_tup (pa_cons (pe_tup (pa_cons (pe_callTy call_int_str (by rfl) T.z_int b_int (pa_cons (pe_slice C8.sl_txt (pv 0) (po_some (pv 2)) (po_some (pv 1))) pa_nil)) pa_nil)) (pa_cons (pv 1) pa_nil))))))))))), ?_⟩
  refine ⟨_, rfl, ?_⟩
  refine ⟨fun σ' H' => ∃ o, σ' = [some (.str (S cs)), some (.int ((i + o : Nat) : Int)), some (.int (i : Int)), none] ∧ o ≤ s.length ∧ H' = H ∧ ((o = 1 ∧ s.head? = some 45 ∧ s.tail.head? ≠ some 48) ∨ (o = 0 ∧ s.head? ≠ some 45)), ?_, ?_⟩
  · refine ⟨_, rfl, _, rfl, _, rfl, _, rfl, _, _, rfl, rfl, _, rfl, _, rfl, hT.line, rfl, _, rfl, ?_⟩
    rw [slice_pk hi, ← hs]
    by_cases h45 : s.head? = some 45
    · have hs1 : 1 ≤ s.length := by cases s with | nil => simp at h45 | cons a r => simp
      refine ifT (eqT s_mi h45) ?_
      refine ⟨_, rfl, _, _, rfl, rfl, ?_⟩
      refine ⟨_, rfl, _, rfl, _, rfl, _, rfl, _, _, rfl, rfl, _, rfl, _, rfl, hT.line, rfl, _, rfl, ?_⟩
      have e1 : cs.drop (i + 1) = s.tail := by rw [tail_drop]; exact drop_add hs.symm
      have e2 := slice_pk (a := cs) (i := i + 1) (by omega)
      rw [show ((i + 1 : Nat) : Int) = (i : Int) + 1 by omega] at e2
      rw [e2, e1]
      by_cases h48 : s.tail.head? = some 48
      · refine ifT (eqT s_0 h48) ?_
        refine ⟨_, rfl, by show 2 ≤ sizeLine; decide, fun p hp => ?_⟩
        have er : rdNum s = .bad 1 := by unfold rdNum; rw [if_pos h45, if_pos h48]
        rw [er] at k
        exact k _ _ (Same.upd hp) bad_made
      · exact ifF (eqF s_0 h48) ⟨1, rfl, hs1, rfl, .inl ⟨rfl, h45, h48⟩⟩
    · exact ifF (eqF s_mi h45) ⟨0, rfl, Nat.zero_le _, rfl, .inr ⟨rfl, h45⟩⟩
  · rintro σ' H' ⟨o, rfl, hol, rfl, ho⟩
    have e1 : cs.drop (i + o) = s.drop o := drop_add hs.symm
    refine ⟨_, rfl, _, rfl, _, rfl, _, rfl, _, _, rfl, rfl, _, rfl, _, rfl, hT.line, rfl, _, rfl, ?_⟩
    rw [slice_pk (show i + o ≤ cs.length by omega), e1]
    by_cases h48 : (s.drop o).head? = some 48
    · refine ifT (eqT s_0 h48) ?_
      have ho0 : o = 0 ∧ s.head? ≠ some 45 := by
        rcases ho with ⟨rfl, _, z⟩ | z
        · rw [tail_drop] at z; exact absurd h48 z
        · exact z
      obtain ⟨rfl, h45⟩ := ho0
      rw [List.drop_zero] at h48
      have er : rdNum s = .ok (.int 0) 1 := by unfold rdNum; rw [if_neg h45, if_pos h48]
      rw [er] at k
      refine ⟨by show 1 ≤ sizeLine; decide, fun b hb => ⟨_, rfl, _, _, rfl, rfl, by show 2 ≤ sizeLine; decide, fun p hp => ?_⟩⟩
      exact k _ _ ((Same.upd hb).trans (Same.upd hp)) (ok_made hp (.int 0) hb)
    · refine ifF (eqF s_0 h48) ?_
      refine ⟨_, rfl, ?_⟩
      have hdl := digs_len (s.drop o)
      rw [List.length_drop] at hdl
      have h20 := digs_20 (s.drop o)
      refine wh (fun (m : Nat) σ H'' => m ≤ (digs (s.drop o)).length ∧ H'' = H' ∧ σ = [some (.str (S cs)), some (.int ((i + o + m : Nat) : Int)), some (.int (i : Int)), some (.int ((i + o : Nat) : Int))]) (fun m => (digs (s.drop o)).length - m) 0 ⟨Nat.zero_le _, rfl, rfl⟩ ?_
      rintro m σ H'' ⟨hm, rfl, rfl⟩
      have e2 : cs.drop (i + o + m) = (s.drop o).drop m := drop_add e1
      have fin : m = (digs (s.drop o)).length → (tSeq (tIfS (tTest (tOp rEq (tVar 1) (tVar 3))) (tRet (tTup (tCons (tC .non) (tCons (tVar 1) tNil)))) tNext)
          (tRet (tTup (tCons (tTup (tCons (tCB (fun xs H Q => ∃ a n, xs = [.str a] ∧ PySem.intText? a = some n ∧ a.length ≤ 640 ∧ Q (.int n) H) (tCons (tSl C8.rSlX (tVar 0) (tPart (tVar 2)) (tPart (tVar 1))) tNil)) tNil)) (tCons (tVar 1) tNil)))))
          { nx := fun _ H' => Q .non H', rt := Q } [some (.str (S cs)), some (.int ((i + o + m : Nat) : Int)), some (.int (i : Int)), some (.int ((i + o : Nat) : Int))] H'' := by
        intro hml
        refine ⟨_, rfl, _, rfl, rfl, _, rfl, ?_⟩
        by_cases h0 : m = 0
        · subst h0
          have hde : digs (s.drop o) = [] := List.length_eq_zero_iff.mp hml.symm
          refine ifT (decide_eq_true (by simp)) ?_
          have er : rdNum s = .bad o := by
            unfold rdNum
            rcases ho with ⟨rfl, z1, z2⟩ | ⟨rfl, z1⟩
            · rw [if_pos z1, if_neg z2, tail_drop, if_pos hde]
            · rw [List.drop_zero] at hde h48
              rw [if_neg z1, if_neg h48, if_pos hde]
          rw [er] at k
          refine ⟨_, rfl, by show 2 ≤ sizeLine; decide, fun p hp => ?_⟩
          exact k _ _ (Same.upd hp) bad_made
        · have hdne : digs (s.drop o) ≠ [] := fun z => h0 (by rw [hml, z]; rfl)
          refine ifF (by rw [decide_eq_false (fun z => h0 (by injection z; omega))]; decide) ?_
          have hdt : (s.drop o).take m = digs (s.drop o) := by rw [hml]; exact tw_take 20 (s.drop o)
          refine ⟨_, rfl, _, rfl, _, rfl, _, rfl, _, rfl, _, rfl, hT.line, ?_⟩
          rcases ho with ⟨rfl, z1, z2⟩ | ⟨rfl, z1⟩
          · have e3 : Txt.slice (S cs) (some (i : Int)) (some ((i + 1 + m : Nat) : Int)) = S (45 :: digs (s.drop 1)) := by
              rw [slice2 (by omega) (by omega), ← hs, show i + 1 + m - i = m + 1 by omega]
              cases s with
              | nil => simp at z1
              | cons a r =>
                simp at z1; subst z1
                rw [List.take_succ_cons]
                rw [List.drop_succ_cons, List.drop_zero] at hdt ⊢
                rw [hdt]
            rw [e3]
            refine ⟨_, _, rfl, PySem.intText_neg (cs := digs (s.drop 1)) rfl (digs_all _) hdne (by rw [slen, List.length_cons]; omega), by rw [slen, List.length_cons]; omega, ?_⟩
            have er : rdNum s = .ok (.int (-((NumText.digitsVal (digs (s.drop 1)) : Nat) : Int))) (1 + (digs (s.drop 1)).length) := by
              unfold rdNum
              rw [if_pos z1, if_neg z2, tail_drop, if_neg hdne]
            rw [er, show 1 + (digs (s.drop 1)).length = 1 + m by omega] at k
            refine ⟨by show 1 ≤ sizeLine; decide, fun b hb => ⟨_, rfl, by show 2 ≤ sizeLine; decide, fun p hp => ?_⟩⟩
            have q := ok_made (i := i) (n := 1 + m) hp (.int _) hb
            rw [show i + (1 + m) = i + 1 + m by omega] at q
            exact k _ _ ((Same.upd hb).trans (Same.upd hp)) q
          · rw [List.drop_zero] at hdt hdne hml h20 h48
            have e3 : Txt.slice (S cs) (some (i : Int)) (some ((i + 0 + m : Nat) : Int)) = S (digs s) := by
              rw [slice2 (by omega) (by omega), ← hs, show i + 0 + m - i = m by omega, hdt]
            rw [e3]
            refine ⟨_, _, rfl, PySem.intText_digits (digs_all s) hdne (by rw [slen]; omega), by rw [slen]; omega, ?_⟩
            have er : rdNum s = .ok (.int ((NumText.digitsVal (digs s) : Nat) : Int)) (digs s).length := by
              unfold rdNum
              rw [if_neg z1, if_neg h48, if_neg hdne]
            rw [er, ← hml] at k
            refine ⟨by show 1 ≤ sizeLine; decide, fun b hb => ⟨_, rfl, by show 2 ≤ sizeLine; decide, fun p hp => ?_⟩⟩
            exact k _ _ ((Same.upd hb).trans (Same.upd hp)) (ok_made hp (.int _) hb)
      have stop : ∀ c, ((s.drop o).drop m).head? = some c → dig c = false → m = (digs (s.drop o)).length := fun c hc hd => by
        by_cases z : m < (digs (s.drop o)).length
        · obtain ⟨c', h1, h2, _⟩ := tw_in 20 (s.drop o) m z
          rw [hc] at h1; cases h1
          rw [hd] at h2; cases h2
        · omega
      refine ⟨_, rfl, _, rfl, _, _, rfl, ⟨hT.line, rfl⟩, _, _, rfl, rfl, _, rfl, ?_⟩
      by_cases hlt : i + o + m < cs.length
      · refine ifT (decide_eq_true (by rw [slen]; omega)) ?_
        obtain ⟨c, hc⟩ := head_lt hlt
        obtain ⟨hc1, _⟩ := at_char hc
        rw [e2] at hc
        refine ⟨_, rfl, _, rfl, _, _, c, rfl, rfl, by omega, by omega, by rw [slen]; omega, hc1, _, _, rfl, rfl, _, rfl, ?_⟩
        show if (!(PySem.Builtin.Str.occurrences (Str.ofString "0123456789") (S [c]) 0 (Str.ofString "0123456789").length 1).isEmpty) = true then _ else _
        rw [in_digits]
        cases hd : dig c with
        | false => exact ifF Bool.false_ne_true (ifF Bool.false_ne_true (fin (stop c hc hd)))
        | true =>
          refine ifT rfl ?_
          refine ⟨_, rfl, _, rfl, _, _, rfl, rfl, _, _, rfl, rfl, _, rfl, ?_⟩
          by_cases h2 : m < 20
          · refine ifT (decide_eq_true (by omega)) ?_
            refine ⟨whN _ _ m, whN_ok, ?_⟩
            refine ⟨_, rfl, _, _, rfl, rfl, ?_⟩
            have hmm := tw_more 20 (s.drop o) m c h2 hm hc hd
            exact ⟨m + 1, by show (digs (s.drop o)).length - (m + 1) < (digs (s.drop o)).length - m; unfold digs; omega, hmm, rfl, rfl⟩
          · exact ifF (by rw [decide_eq_false (by omega)]; decide) (fin (by omega))
      · refine ifF (by rw [decide_eq_false (by rw [slen]; omega)]; decide) (ifF Bool.false_ne_true (fin ?_))
        by_cases z : m < (digs (s.drop o)).length
        · omega
        · omega
end
end Toy

set_option Elab.async false
set_option linter.all false
set_option maxRecDepth 100000
set_option maxHeartbeats 4000000
namespace Toy
open PySem L2 TL
open SX (S)
section
variable {P : Program} {w : World} {K : PySem.W.Frag} {mg : Str → Option Value} {base : Heap} {CB fB cB dB CR : Addr}
theorem RT.at {H : Hp} {v : V} {i : Nat} {r r' : Res Paper} (h : RT H v i r) (e : r = r') : RT H v i r' := e ▸ h
theorem none_code {j : Nat} (h : j < 4) : ∃ c, (Str.ofString "none").cps[((0 : Int) + (j : Int)).toNat]? = some c ∧ [110, 111, 110, 101][j]? = some c ∧ (0 : Int) + (j : Int) < (Str.ofString "none").length := by
  rw [s_none, slen, show ((0 : Int) + (j : Int)).toNat = j by omega]
  refine ⟨[110, 111, 110, 101][j], ?_, List.getElem?_eq_getElem h, by simp; omega⟩
  have e : (S [110, 111, 110, 101]).cps[j]? = [110, 111, 110, 101][j]? := by simp [SX.S]
  rw [e, List.getElem?_eq_getElem h]
abbrev s_l_read_at : Stmt := top 18
theorem sc_l_read_at : FnScope ["text", "at", "depth", "sign", "end", "k", "parts", "found"] ["text", "at", "depth"] (defScope s_l_read_at) := ⟨rfl, rfl, rfl, by decide +kernel, rfl, by decide +kernel, by decide +kernel⟩

theorem ok_l_read {k n : Nat} (hn : 1 ≤ n) (hk60 : k ≤ 60) {f : Addr} {fd : FuncData} (F : Fun K "_law_read_at" "_law_read_at" s_l_read_at f fd) (T : Txt P K mg CB fB cB dB CR) (C__law_read_number : CalX P w K mg base CX0 1 "_law_read_number" spLNum)
    (sp : Sp) (hsp : ∀ k', k = k' + 1 → sp = spLRead k') (C__law_read_at : CalX P w K mg base CX0 n "_law_read_at" sp) : FnOk P w K mg base CX0 (n + 1) f fd ["text", "at", "depth"] (spLRead k) := by
  refine F.ok sc_l_read_at (fun vs H Q E h => ?_) (fun cdv A outer s0 H vs Q E hr h => ?_)
  · obtain ⟨cs, i, rfl, _⟩ := h
    rfl
  obtain ⟨cs, i, rfl, hT, hi, kk⟩ := h
  have hr : Room n _ := hr
  have hT2 := hT.2
  obtain ⟨s, hs⟩ : ∃ s, s = cs.drop i := ⟨_, rfl⟩
  rw [← hs] at kk
  have hsl : s.length + i = cs.length := by rw [hs, List.length_drop]; omega
  refine ⟨_, (pss_cons (ps_set (i := 3) sc_l_read_at.nd rfl (Or.inl rfl) (pe_slice C8.sl_txt (pv 0) (po_some (pv 1)) (po_some (pe_op op_add (pv 1) pe_int))))
    (pss_cons (ps_if (pt_cmpR op_eq (pv 3) pe_str (nomark _)) (pss_cons (ps_set (i := 4) sc_l_read_at.nd rfl (Or.inl rfl) (pe_op op_add (pv 1) pe_int))
    (pss_cons (ps_while PassesOwn.never (PW.pt (pw_and (pt_cmpR op_lt (pv 4) (pe_callB call_len (by rfl) T.z_len b_len (pa_cons (pv 0) pa_nil)) (nomark _)) (pw_and1 (pt_cmpR op_ne (pe_item_str (pv 0) (pv 4) (fun _ _ => rfl)) pe_str (nomark _))))) (pss_one (ps_aug (i := 4) sc_l_read_at.nd rfl (Or.inl rfl) pe_int ip_add)))
    (pss_cons (ps_if (pt_cmpR op_eq (pv 4) (pe_callB call_len (by rfl) T.z_len b_len (pa_cons (pv 0) pa_nil)) (nomark _)) (pss_one (ps_ret (pe_tup (pa_cons pe_non (pa_cons (pv 4) pa_nil))))) pss_nil)
    (pss_one (ps_ret (pe_tup (pa_cons (pe_tup (pa_cons (pe_slice C8.sl_txt (pv 0) (po_some (pe_op op_add (pv 1) pe_int)) (po_some (pv 4))) pa_nil)) (pa_cons (pe_op op_add (pv 4) pe_int) pa_nil)))))))) pss_nil)
    (pss_cons (ps_if (pt_cmpR op_eq (pv 3) pe_str (nomark _)) (pss_cons (ps_for PassesOwn.never rfl (pi_range1 (by rfl) T.z_range (pa_cons pe_int pa_nil)) (pg_name (i := 5) sc_l_read_at.nd rfl (Or.inl rfl)) (pss_one (ps_if (pt_cmpR op_ne (pe_slice C8.sl_txt (pv 0) (po_some (pe_op op_add (pv 1) (pv 5))) (po_some (pe_op op_add (pe_op op_add (pv 1) (pv 5)) pe_int))) (pe_item_str pe_str (pv 5) (fun _ _ => rfl)) (nomark _)) (pss_one (ps_ret (pe_tup (pa_cons pe_non (pa_cons (pe_op op_add (pv 1) (pv 5)) pa_nil))))) pss_nil)))
    (pss_one (ps_ret (pe_tup (pa_cons (pe_tup (pa_cons pe_non pa_nil)) (pa_cons (pe_op op_add (pv 1) pe_int) pa_nil)))))) pss_nil)
    (pss_cons (ps_if (pt_cmpR op_ne (pv 3) pe_str (nomark _)) (pss_one (ps_ret (pe_u C__law_read_number hr (by omega) pass0 (pa_cons (pv 0) (pa_cons (pv 1) pa_nil))))) pss_nil)
    (pss_cons (ps_if (pt_cmpR op_eq (pv 2) pe_int (nomark _)) (pss_one (ps_ret (pe_tup (pa_cons pe_non (pa_cons (pv 1) pa_nil))))) pss_nil)
    (pss_cons (ps_set (i := 6) sc_l_read_at.nd rfl (Or.inl rfl) (pe_lst pa_nil))
    (pss_cons (ps_aug (i := 1) sc_l_read_at.nd rfl (Or.inl rfl) pe_int ip_add)
    (pss_cons (ps_while PassesOwn.never (pt_cmpR op_ne (pe_slice C8.sl_txt (pv 0) (po_some (pv 1)) (po_some (pe_op op_add (pv 1) pe_int))) pe_str (nomark _)) (C8.pss_cut (ps_if (pt_cmpR op_gt (pe_callB call_len_seq (by rfl) T.z_len b_len (pa_cons (pv 6) pa_nil)) pe_int (nomark _)) (pss_cons (ps_if (pt_cmpR op_ne (pe_slice C8.sl_txt (pv 0) (po_some (pv 1)) (po_some (pe_op op_add (pv 1) pe_int))) pe_str (nomark _)) (pss_one (ps_ret (pe_tup (pa_cons pe_non (pa_cons (pv 1) pa_nil))))) pss_nil)
    (pss_one (ps_aug (i := 1) sc_l_read_at.nd rfl (Or.inl rfl) pe_int ip_add))) pss_nil)
    (pss_cons (ps_asg (pe_u C__law_read_at hr (by omega) pass0 (pa_cons (pv 0) (pa_cons (pv 1) (pa_cons (pe_op op_add (pv 2) pe_int) pa_nil)))) (pg_tup (by rfl) (pgs_cons (pg_name (i := 7) sc_l_read_at.nd rfl (Or.inl rfl)) (pgs_cons (pg_name (i := 1) sc_l_read_at.nd rfl (Or.inl rfl)) pgs_nil))))
    (pss_cons (ps_if (pt_cmpR op_isN (pv 7) pe_non (nomark _)) (pss_one (ps_ret (pe_tup (pa_cons pe_non (pa_cons (pv 1) pa_nil))))) pss_nil)
    (pss_one (ps_expr (pe_bm PySem.F.plainAttrs_list PySem.F.slot_list_append PySem.F.type_list_append mt_append (pv 6) (pa_cons (pe_ix ix_tup (pv 7) pe_int (fun _ _ => rfl)) pa_nil))))))))
    (pss_one (ps_ret (pe_tup (pa_cons (pe_tup (pa_cons (pe_callTy call_tuple_of (by rfl) T.z_tuple b_tuple (pa_cons (pv 6) pa_nil)) pa_nil)) (pa_cons (pe_op op_add (pv 1) pe_int) pa_nil))))))))))))), ?_⟩
  refine ⟨_, rfl, _, rfl, _, rfl, _, rfl, _, _, rfl, rfl, _, rfl, _, rfl, hT.line, ?_⟩
  rw [slice_pk hi, ← hs]
  refine ⟨_, rfl, rfl, _, rfl, ?_⟩
  by_cases h34 : s.head? = some 34
  · refine ifT (eqT s_q h34) ?_
    obtain ⟨t, rfl⟩ : ∃ t, s = 34 :: t := by cases s with | nil => simp at h34 | cons a r => simp at h34; exact ⟨r, by rw [h34]⟩
    rw [rd_str] at kk
    obtain ⟨ht1, hlen⟩ := drop_of hs.symm
    have hil := inn_len t
    refine ⟨_, rfl, _, _, rfl, rfl, ?_⟩
    refine wh (fun (m : Nat) σ H' => m ≤ (inn t).length ∧ H' = H ∧ ∃ g, σ = [some (.str (S cs)), some (.int (i : Int)), some (.int (60 - (k : Int))), g, some (.int ((i + 1 + m : Nat) : Int)), none, none, none]) (fun m => (inn t).length - m) 0 ⟨Nat.zero_le _, rfl, _, rfl⟩ ?_
    rintro m σ H' ⟨hm, rfl, g, rfl⟩
    have hd : cs.drop (i + 1 + m) = t.drop m := drop_add ht1
    have fin : m = (inn t).length → (tSeq (tIfS (tTest (tOp rEq (tVar 4) (tCB (fun xs H Q => ∃ x n, xs = [x] ∧ LenV K x H n ∧ Q (.int n) H) (tCons (tVar 0) tNil)))) (tRet (tTup (tCons (tC .non) (tCons (tVar 4) tNil)))) tNext)
        (tRet (tTup (tCons (tTup (tCons (tSl C8.rSlX (tVar 0) (tPart (tOp (rI0 fun i j => .int (i + j)) (tVar 1) (tC (.int 1)))) (tPart (tVar 4))) tNil)) (tCons (tOp (rI0 fun i j => .int (i + j)) (tVar 4) (tC (.int 1))) tNil)))))
        { nx := fun _ _ => False, rt := Q } [some (.str (S cs)), some (.int (i : Int)), some (.int (60 - (k : Int))), g, some (.int ((i + 1 + m : Nat) : Int)), none, none, none] H' := by
      intro hml
      refine ⟨_, rfl, _, rfl, _, _, rfl, ⟨hT.line, rfl⟩, rfl, _, rfl, ?_⟩
      by_cases hmt : m = t.length
      · refine ifT (decide_eq_true (by rw [slen]; exact congrArg V.int (by omega))) ?_
        have er : rdStr t = .bad (1 + t.length) := by unfold rdStr; rw [if_pos (by omega)]
        rw [er] at kk
        refine ⟨_, rfl, by show 2 ≤ sizeLine; decide, fun p hp => ?_⟩
        have q := bad_made (H := H') (p := p) (i := i) (n := 1 + t.length)
        rw [show i + (1 + t.length) = i + 1 + m by omega] at q
        exact kk _ _ (Same.upd hp) q
      · refine ifF (by rw [decide_eq_false (fun z => hmt (by rw [slen] at z; injection z with z; omega))]; decide) ?_
        have er : rdStr t = .ok (.str (inn t)) ((inn t).length + 2) := by unfold rdStr; rw [if_neg (by omega)]
        rw [er] at kk
        refine ⟨_, rfl, _, rfl, _, _, rfl, rfl, _, rfl, _, rfl, _, rfl, _, rfl, hT.line, ?_⟩
        have e : Txt.slice (S cs) (some ((i : Int) + 1)) (some ((i + 1 + m : Nat) : Int)) = S (inn t) := by
          rw [show (i : Int) + 1 = ((i + 1 : Nat) : Int) by omega, slice2 (by omega) (by omega), ht1, show i + 1 + m - (i + 1) = m by omega, hml, inn_take]
        rw [e]
        refine ⟨by show 1 ≤ sizeLine; decide, fun b hb => ⟨_, rfl, _, _, rfl, rfl, by show 2 ≤ sizeLine; decide, fun p hp => ?_⟩⟩
        have q := ok_made (i := i) (n := (inn t).length + 2) hp (.str (inn t)) hb
        rw [show ((i + ((inn t).length + 2) : Nat) : Int) = ((i + 1 + m : Nat) : Int) + 1 by omega] at q
        exact kk _ _ ((Same.upd hb).trans (Same.upd hp)) q
    refine ⟨_, rfl, _, rfl, _, _, rfl, ⟨hT.line, rfl⟩, _, _, rfl, rfl, _, rfl, ?_⟩
    by_cases hlt : i + 1 + m < cs.length
    · refine ifT (decide_eq_true (by rw [slen]; omega)) ?_
      obtain ⟨c, hc⟩ := head_lt hlt
      obtain ⟨hc1, _⟩ := at_char hc
      rw [hd] at hc
      refine ⟨_, rfl, _, rfl, _, _, c, rfl, rfl, by omega, by omega, by rw [slen]; omega, hc1, rfl, _, rfl, ?_⟩
      by_cases hc34 : c = 34
      · refine ifF (by rw [hc34, s_q]; decide) ?_
        have hml : m = (inn t).length := by
          by_cases z : m < (inn t).length
          · exact absurd hc34 (inn_in t m c z hc)
          · omega
        exact fin hml
      · refine ifT (by rw [decide_eq_false (fun z => hc34 (by rw [s_q] at z; injection z with z; have := S_eq.mp (show S [c] = S [34] from z); simpa using this))]; rfl) ?_
        refine ⟨whN _ _ m, whN_ok, ?_⟩
        refine ⟨_, rfl, _, _, rfl, rfl, ?_⟩
        have hl : m < (inn t).length := by
          by_cases z : m < (inn t).length
          · exact z
          · exact absurd (inn_stop t c (by rw [show (inn t).length = m by omega]; exact hc)) hc34
        exact ⟨m + 1, by show (inn t).length - (m + 1) < (inn t).length - m; omega, by omega, rfl, g, by rfl⟩
    · exact ifF (by rw [decide_eq_false (by rw [slen]; omega)]; decide) (ifF Bool.false_ne_true (fin (by omega)))
  refine ifF (eqF s_q h34) ?_
  refine ⟨_, rfl, rfl, _, rfl, ?_⟩
  by_cases h110 : s.head? = some 110
  · refine ifT (eqT s_n h110) ?_
    obtain ⟨t, rfl⟩ : ∃ t, s = 110 :: t := by cases s with | nil => simp at h110 | cons a r => simp at h110; exact ⟨r, by rw [h110]⟩
    rw [rd_none] at kk
    refine ⟨_, rfl, by decide, by decide, for_range (lo := 0) (n := 4) (fun j σ H' => j ≤ (110 :: t).length ∧ H' = H ∧ (∀ m, m < j → (110 :: t)[m]? = [110, 111, 110, 101][m]?) ∧ ∃ g g2, σ = [some (.str (S cs)), some (.int (i : Int)), some (.int (60 - (k : Int))), g, none, g2, none, none])
      ⟨Nat.zero_le _, rfl, fun m hm => by omega, _, _, rfl⟩ (fun j σ H' hj h => ?_) (fun σ H' h => ?_)⟩
    · obtain ⟨hjl, rfl, hm, g, g2, rfl⟩ := h
      obtain ⟨c, hc1, hc2, hc3⟩ := none_code hj
      have e1 : cs.drop (i + j) = (110 :: t).drop j := drop_add hs.symm
      have e2 := slice_pk (a := cs) (i := i + j) (by omega)
      rw [show ((i + j : Nat) : Int) = (i : Int) + (0 + (j : Int)) by omega] at e2
      refine ⟨_, rfl, _, rfl, _, rfl, _, _, rfl, rfl, _, rfl, _, rfl, _, rfl, _, _, rfl, rfl, _, _, rfl, rfl, _, rfl, _, rfl, hT.line, _, rfl, _, _, c, rfl, rfl, by omega, by omega, hc3, hc1, rfl, _, rfl, ?_⟩
      rw [e2, e1]
      by_cases h : ((110 :: t).drop j).head? = some c
      · refine ifF (neF rfl h) ?_
        rw [head_drop] at h
        have hjt := (List.getElem?_eq_some_iff.mp h).1
        refine ⟨by omega, rfl, fun m hm' => ?_, _, _, rfl⟩
        by_cases z : m < j
        · exact hm m z
        · have : m = j := by omega
          subst this
          rw [h, hc2]
      · refine ifT (neT rfl h) ?_
        rw [head_drop] at h
        rw [none_step hj hc2 hm h] at kk
        refine ⟨_, rfl, _, rfl, _, _, rfl, rfl, by show 2 ≤ sizeLine; decide, fun p hp => ?_⟩
        have q := bad_made (H := H') (p := p) (i := i) (n := j)
        rw [show ((i + j : Nat) : Int) = (i : Int) + (0 + (j : Int)) by omega] at q
        exact kk _ _ (Same.upd hp) q
    · obtain ⟨hjl, rfl, hm, g, g2, rfl⟩ := h
      rw [none_all hm] at kk
      refine ⟨by show 1 ≤ sizeLine; decide, fun b hb => ⟨_, rfl, _, _, rfl, rfl, by show 2 ≤ sizeLine; decide, fun p hp => ?_⟩⟩
      exact kk _ _ ((Same.upd hb).trans (Same.upd hp)) (ok_made hp .non hb)
  refine ifF (eqF s_n h110) ?_
  refine ⟨_, rfl, rfl, _, rfl, ?_⟩
  by_cases h40 : s.head? ≠ some 40
  · refine ifT (neT s_op h40) ?_
    exact ⟨_, rfl, _, rfl, cs, i, rfl, hT, hi, fun v H' s' h => kk _ _ s' (by rw [rd_num k s h34 h110 h40, hs]; exact h)⟩
  have h40' : s.head? = some 40 := by
    cases z : s.head? with
    | none => rw [z] at h40; simp at h40
    | some c => rw [z] at h40; simpa using h40
  refine ifF (neF s_op h40') ?_
  obtain ⟨t, rfl⟩ : ∃ t, s = 40 :: t := by cases s with | nil => simp at h40' | cons a r => simp at h40'; exact ⟨r, by rw [h40']⟩
  obtain ⟨ht1, hlen⟩ := drop_of hs.symm
  refine ⟨_, rfl, rfl, _, rfl, ?_⟩
  cases k with
  | zero =>
    refine ifT rfl ?_
    rw [rd_zero] at kk
    exact ⟨_, rfl, by show 2 ≤ sizeLine; decide, fun p hp => kk _ _ (Same.upd hp) ⟨p, rfl, upd_same⟩⟩
  | succ k =>
    have hs' := hsp k rfl
    subst hs'
    rw [rd_tup] at kk
    refine ifF (by rw [decide_eq_false (by simp; omega)]; decide) ?_
    refine ⟨by show 0 ≤ sizeLine; decide, fun D hD => ?_⟩
    refine ⟨_, rfl, _, _, rfl, rfl, ?_⟩
    refine wh (fun (g : Nat × List Paper) σ H' => g.1 ≤ t.length ∧ g.2.length ≤ g.1 ∧ loop (rd k) true t [] = Res.shift g.1 (loop (rd k) g.2.isEmpty (t.drop g.1) g.2) ∧ Same H H' ∧
        (∃ vs, H' D = some (.lst vs) ∧ PVs H' vs g.2) ∧ ∃ x y, σ = [some (.str (S cs)), some (.int ((i + 1 + g.1 : Nat) : Int)), some (.int (60 - ((k + 1 : Nat) : Int))), x, none, none, some (.ref D), y]) (fun g => t.length - g.1) (0, [])
      ⟨Nat.zero_le _, Nat.le_refl _, ?_, Same.upd hD, ⟨[], upd_same, .nil⟩, _, _, rfl⟩ ?_
    · cases e : loop (rd k) true t [] <;> simp [Res.shift, e]
    rintro ⟨j, ps⟩ σ H' ⟨hj, hpj, hR, sH, ⟨vs, hd, hvs⟩, x, y, rfl⟩
    have hj : j ≤ t.length := hj
    have hpj : ps.length ≤ j := hpj
    have hR : loop (rd k) true t [] = Res.shift j (loop (rd k) ps.isEmpty (t.drop j) ps) := hR
    have hvs : PVs H' vs ps := hvs
    have hvl : vs.length = ps.length := hvs.length
    have e1 : cs.drop (i + 1 + j) = t.drop j := drop_add ht1
    have e2 := slice_pk (a := cs) (i := i + 1 + j) (by omega)
    refine ⟨_, rfl, _, rfl, _, rfl, _, rfl, _, _, rfl, rfl, _, rfl, _, rfl, hT.line, rfl, _, rfl, ?_⟩
    rw [e2, e1]
    by_cases h41 : (t.drop j).head? = some 41
    · refine ifF (neF s_cl h41) ?_
      rw [loop_end h41] at hR
      rw [hR] at kk
      refine ⟨_, rfl, D, vs, rfl, .inl ⟨SqL.of hd, fun q hq => ?_⟩⟩
      have pv : PV (upd H' q (.tup vs)) (.ref q) (.tup ps) := .tup upd_same (by omega) (hvs.same (Same.upd hq))
      refine ⟨by show 1 ≤ sizeLine; decide, fun b hb => ⟨_, rfl, _, _, rfl, rfl, by show 2 ≤ sizeLine; decide, fun p hp => ?_⟩⟩
      have z := ok_made (i := i) (n := 1 + (j + 1)) hp pv hb
      rw [show ((i + (1 + (j + 1)) : Nat) : Int) = ((i + 1 + j : Nat) : Int) + 1 by omega] at z
      exact kk _ _ (sH.trans ((Same.upd hq).trans ((Same.upd hb).trans (Same.upd hp)))) z
    · refine ifT (neT s_cl h41) ?_
      refine ⟨_, whN_ok (μ := fun g : Nat × List Paper => t.length - g.1) (a := (j, ps)), ?_⟩
      refine ⟨fun σ' H'' => (∃ y, σ' = [some (.str (S cs)), some (.int ((i + 1 + j + off ps.isEmpty : Nat) : Int)), some (.int (60 - ((k + 1 : Nat) : Int))), x, none, none, some (.ref D), y]) ∧ (ps.isEmpty = true ∨ (t.drop j).head? = some 32) ∧ H'' = H' ∧ off ps.isEmpty + j ≤ t.length, ?_, ?_⟩
      · refine ⟨_, rfl, D, _, rfl, .inl (SqL.of hd), _, _, rfl, rfl, _, rfl, ?_⟩
        cases ps with
        | nil =>
          cases hvs
          refine ifF (by decide) ⟨⟨_, rfl⟩, .inl rfl, rfl, by show 0 + j ≤ _; omega⟩
        | cons q r =>
          refine ifT (decide_eq_true (by rw [hvl, List.length_cons]; omega)) ?_
          refine ⟨_, rfl, _, rfl, _, rfl, _, rfl, _, _, rfl, rfl, _, rfl, _, rfl, hT.line, rfl, _, rfl, ?_⟩
          rw [e2, e1]
          by_cases h : (t.drop j).head? = some 32
          · refine ifF (neF s_sp h) ?_
            have hjt : j < t.length := by
              by_cases z : j < t.length
              · exact z
              · rw [List.drop_eq_nil_of_le (by omega)] at h; simp at h
            exact ⟨_, rfl, _, _, rfl, rfl, ⟨_, rfl⟩, .inr h, rfl, by show 1 + j ≤ _; omega⟩
          · refine ifT (neT s_sp h) ?_
            have e3 : (q :: r).isEmpty = false := rfl
            rw [e3, loop_gap h41 h] at hR
            rw [hR] at kk
            refine ⟨_, rfl, by show 2 ≤ sizeLine; decide, fun p hp => ?_⟩
            have z := bad_made (H := H') (p := p) (i := i) (n := 1 + (j + 0))
            rw [show i + (1 + (j + 0)) = i + 1 + j by omega] at z
            exact kk _ _ (sH.trans (Same.upd hp)) z
      · rintro σ' H'' ⟨⟨y', rfl⟩, hor, rfl, hoj⟩
        have e3 : cs.drop (i + 1 + j + off ps.isEmpty) = (t.drop j).drop (off ps.isEmpty) := drop_add e1
        refine ⟨_, rfl, _, rfl, _, rfl, _, _, rfl, rfl, cs, i + 1 + j + off ps.isEmpty, ?_, hT, by omega, fun v H3 s3 h3 => ?_⟩
        · simp; omega
        rw [e3] at h3
        cases e : rd k ((t.drop j).drop (off ps.isEmpty)) with
        | bad m =>
          rw [e] at h3
          obtain ⟨a, rfl, ha⟩ := h3
          rw [loop_bad h41 hor e] at hR
          rw [hR] at kk
          refine ⟨a, _, rfl, SqT.of ha, rfl, _, _, rfl, _, _, rfl, rfl, ?_⟩
          refine ⟨_, rfl, rfl, _, rfl, ifT rfl ?_⟩
          refine ⟨_, rfl, by show 2 ≤ sizeLine; decide, fun p hp => ?_⟩
          have z := bad_made (H := H3) (p := p) (i := i) (n := 1 + (j + (off ps.isEmpty + m)))
          rw [show i + (1 + (j + (off ps.isEmpty + m))) = i + 1 + j + off ps.isEmpty + m by omega] at z
          exact kk _ _ (sH.trans (s3.trans (Same.upd hp))) z
        | ok q m =>
          rw [e] at h3
          obtain ⟨a, b, u, rfl, ha, hb, pv⟩ := h3
          have hsz := rd_size k _ e
          rw [List.length_drop, List.length_drop] at hsz
          rw [loop_ok h41 hor e ⟨hsz.1, by rw [List.length_drop]; omega⟩, shift_shift, List.drop_drop] at hR
          refine ⟨a, _, rfl, SqT.of ha, rfl, _, _, rfl, _, _, rfl, rfl, ?_⟩
          refine ⟨_, rfl, rfl, _, rfl, ifF (by simp) ?_⟩
          have hd3 := s3 _ _ hd
          refine ⟨_, rfl, .inl ⟨rfl, _, SqL.of hd3⟩, _, rfl, b, _, _, _, rfl, rfl, SqT.of hb, rfl, D, vs, _, rfl, rfl, hd3, Nat.lt_of_le_of_lt (show vs.length ≤ 100000 by omega) (by rw [sizeLine_eq]; decide), ?_⟩
          have tu := upd_tups (ys := vs ++ [u]) hd3
          refine ⟨(j + (off ps.isEmpty + m), ps ++ [q]), by show t.length - (j + (off ps.isEmpty + m)) < t.length - j; omega, by show j + (off ps.isEmpty + m) ≤ t.length; omega, by show (ps ++ [q]).length ≤ j + (off ps.isEmpty + m); rw [List.length_append, List.length_singleton]; omega, ?_, ?_, ⟨vs ++ [u], upd_same, ?_⟩, x, some (.ref b), ?_⟩
          · have e4 : (ps ++ [q]).isEmpty = false := by cases ps <;> rfl
            show loop (rd k) true t [] = Res.shift (j + (off ps.isEmpty + m)) (loop (rd k) (ps ++ [q]).isEmpty (t.drop (j + (off ps.isEmpty + m))) (ps ++ [q]))
            rw [e4]
            exact hR
          · intro b' o' e'
            rw [upd_ne (ne_of_none e' hD)]
            exact s3 _ _ (sH _ _ e')
          · exact (hvs.mono (fun b xs e => tu b xs (s3 _ _ e))).snoc (pv.mono tu)
          · show [some (V.str (S cs)), some (V.int ((i + 1 + j + off ps.isEmpty + m : Nat) : Int)), _, _, _, _, _, _] = [some (V.str (S cs)), some (V.int ((i + 1 + (j + (off ps.isEmpty + m)) : Nat) : Int)), _, _, _, _, _, _]
            rw [show i + 1 + (j + (off ps.isEmpty + m)) = i + 1 + j + off ps.isEmpty + m by omega]
/-- ("paper", value) or ("bad", place) -/
def TT (H : Hp) (v : V) : Told → Prop
  | .paper q => ∃ a u, v = .ref a ∧ H a = some (.tup [.str (Str.ofString "paper"), u]) ∧ PV H u q
  | .bad n => ∃ a, v = .ref a ∧ H a = some (.tup [.str (Str.ofString "bad"), .int (n : Int)])
def spTold : Sp := fun vs H Q _ => ∃ cs, vs = [.str (S cs)] ∧ okT cs ∧ ∀ v H', Same H H' → TT H' v (told cs) → Q v H'
abbrev s_l_due : Stmt := top 19
theorem sc_l_due : FnScope ["text", "found", "at"] ["text"] (defScope s_l_due) := ⟨rfl, rfl, rfl, by decide +kernel, rfl, by decide +kernel, by decide +kernel⟩

theorem ok_due {n : Nat} {f : Addr} {fd : FuncData} (F : Fun K "_law_due" "_law_due" s_l_due f fd) (T : Txt P K mg CB fB cB dB CR) (C__law_read_at : CalX P w K mg base CX0 n "_law_read_at" (spLRead 60)) : FnOk P w K mg base CX0 (n + 1) f fd ["text"] spTold := by
  refine F.ok sc_l_due (fun vs H Q E h => ?_) (fun cdv A outer s0 H vs Q E hr h => ?_)
  · obtain ⟨cs, rfl, _⟩ := h
    rfl
  obtain ⟨cs, rfl, hT, kk⟩ := h
  have hr : Room n _ := hr
  refine ⟨_, (pss_cons (ps_asg (pe_u C__law_read_at hr (by omega) pass0 (pa_cons (pv 0) (pa_cons pe_int (pa_cons pe_int pa_nil)))) (pg_tup (by rfl) (pgs_cons (pg_name (i := 1) sc_l_due.nd rfl (Or.inl rfl)) (pgs_cons (pg_name (i := 2) sc_l_due.nd rfl (Or.inl rfl)) pgs_nil))))
    (pss_cons (ps_if (PW.pt (pw_or (pt_cmpR op_isN (pv 1) pe_non (nomark _)) (pw_or1 (pt_cmpR op_lt (pv 2) (pe_callB call_len (by rfl) T.z_len b_len (pa_cons (pv 0) pa_nil)) (nomark _))))) (pss_one (ps_ret (pe_tup (pa_cons pe_str (pa_cons (pv 2) pa_nil))))) pss_nil)
    (pss_one (ps_ret (pe_tup (pa_cons pe_str (pa_cons (pe_ix ix_tup (pv 1) pe_int (fun _ _ => rfl)) pa_nil))))))), ?_⟩
  refine ⟨_, rfl, cs, 0, rfl, hT, Nat.zero_le _, fun v H1 s1 h1 => ?_⟩
  rw [List.drop_zero] at h1
  unfold told at kk
  cases e : rd 60 cs with
  | bad m =>
    rw [e] at h1 kk
    obtain ⟨a, rfl, ha⟩ := h1
    rw [Nat.zero_add] at ha
    refine ⟨a, _, rfl, SqT.of ha, rfl, _, _, rfl, _, _, rfl, rfl, ?_⟩
    refine ⟨_, rfl, rfl, _, rfl, ifT rfl (ifT rfl ?_)⟩
    exact ⟨_, rfl, by show 2 ≤ sizeLine; decide, fun p hp => kk _ _ (s1.trans (Same.upd hp)) ⟨p, rfl, upd_same⟩⟩
  | ok q m =>
    rw [e] at h1 kk
    obtain ⟨a, b, u, rfl, ha, hb, pv⟩ := h1
    rw [Nat.zero_add] at ha
    refine ⟨a, _, rfl, SqT.of ha, rfl, _, _, rfl, _, _, rfl, rfl, ?_⟩
    refine ⟨_, rfl, rfl, _, rfl, ifF (by simp) ?_⟩
    refine ⟨_, rfl, _, rfl, _, _, rfl, ⟨hT.line, rfl⟩, _, _, rfl, rfl, _, rfl, ?_⟩
    by_cases hm : m < cs.length
    · simp only [if_pos hm] at kk
      refine ifT (decide_eq_true (by rw [slen]; omega)) ?_
      exact ⟨_, rfl, by show 2 ≤ sizeLine; decide, fun p hp => kk _ _ (s1.trans (Same.upd hp)) ⟨p, rfl, upd_same⟩⟩
    · simp only [if_neg hm] at kk
      refine ifF (by rw [decide_eq_false (by rw [slen]; omega)]; decide) ?_
      refine ⟨_, rfl, b, _, 0, u, rfl, rfl, SqT.of hb, rfl, by show 2 ≤ sizeLine; decide, fun p hp => ?_⟩
      exact kk _ _ (s1.trans (Same.upd hp)) ⟨p, u, rfl, upd_same, pv.same (Same.upd hp)⟩
abbrev s_l_deep : Stmt := top 21
theorem sc_l_deep : FnScope ["many", "paper", "k"] ["many"] (defScope s_l_deep) := ⟨rfl, rfl, rfl, by decide +kernel, rfl, by decide +kernel, by decide +kernel⟩

theorem ok_deep {f : Addr} {fd : FuncData} (F : Fun K "_law_deep" "_law_deep" s_l_deep f fd) (T : Txt P K mg CB fB cB dB CR) : FnOk P w K mg base CX0 1 f fd ["many"] (fun vs H Q _ => vs = [.int 60] ∧ ∀ v H', Same H H' → PV H' v (deepP 59) → Q v H') := by
  refine F.ok sc_l_deep (fun vs H Q E h => ?_) (fun cdv A outer s0 H vs Q E hr h => ?_)
  · obtain ⟨rfl, _⟩ := h
    rfl
  obtain ⟨rfl, kk⟩ := h
  refine ⟨_, (pss_cons (ps_set (i := 1) sc_l_deep.nd rfl (Or.inl rfl) (pe_tup pa_nil))
    (pss_cons (ps_for PassesOwn.never rfl (pi_range1 (by rfl) T.z_range (pa_cons (pe_op op_sub (pv 0) pe_int) pa_nil)) (pg_name (i := 2) sc_l_deep.nd rfl (Or.inl rfl)) (pss_one (ps_set (i := 1) sc_l_deep.nd rfl (Or.inl rfl) (pe_tup (pa_cons (pv 1) pa_nil)))))
    (pss_one (ps_ret (pv 1))))), ?_⟩
  refine ⟨by show 0 ≤ sizeLine; decide, fun p hp => ?_⟩
  refine ⟨_, rfl, _, _, rfl, rfl, _, rfl, by decide, by decide, for_range (lo := 0) (n := 59) (fun j σ H' => Same H H' ∧ ∃ v g, σ = [some (.int 60), some v, g] ∧ PV H' v (deepP j)) ⟨Same.upd hp, _, _, rfl, .tup upd_same (by simp) .nil⟩ (fun j σ H' hj h => ?_) (fun σ H' h => ?_)⟩
  · obtain ⟨s1, v, g, rfl, pv⟩ := h
    refine ⟨_, rfl, by show 1 ≤ sizeLine; decide, fun q hq => ?_⟩
    exact ⟨s1.trans (Same.upd hq), _, _, rfl, .tup upd_same (by simp) (.cons (pv.same (Same.upd hq)) .nil)⟩
  · obtain ⟨s1, v, g, rfl, pv⟩ := h
    exact ⟨_, rfl, kk _ _ s1 pv⟩
end
end Toy

set_option Elab.async false
set_option linter.all false
set_option maxRecDepth 100000
set_option maxHeartbeats 4000000
namespace Toy
open PySem L2 TL
open SX (S)
mutual
theorem good_mono : ∀ (p : Paper) (k m : Nat), k ≤ m → good k p → good m p
  | .non, _, _, _, _ => by unfold good; trivial
  | .int i, _, _, _, h => by unfold good at h ⊢; exact h
  | .str s, _, _, _, h => by unfold good at h ⊢; exact h
  | .tup l, 0, _, _, h => by unfold good at h; exact h.elim
  | .tup l, k + 1, m, hm, h => by
    obtain ⟨m', rfl⟩ : ∃ m', m = m' + 1 := ⟨m - 1, by omega⟩
    unfold good at h ⊢
    exact goods_mono l k m' (by omega) h
theorem goods_mono : ∀ (l : List Paper) (k m : Nat), k ≤ m → goods k l → goods m l
  | [], _, _, _, _ => by unfold goods; trivial
  | p :: r, k, m, hm, h => by
    unfold goods at h ⊢
    exact ⟨good_mono p k m hm h.1, goods_mono r k m hm h.2⟩
end
theorem digs_dig (s : List Nat) : ∀ c ∈ digs s, 48 ≤ c ∧ c ≤ 57 := digs_all s
theorem foldl_lt : ∀ (l : List Nat) (a : Nat), (∀ c ∈ l, 48 ≤ c ∧ c ≤ 57) → l.foldl (fun acc c => acc * 10 + (c - 48)) a < (a + 1) * 10 ^ l.length
  | [], a, _ => by simp
  | c :: l, a, h => by
    have h1 := h c List.mem_cons_self
    have h2 := foldl_lt l (a * 10 + (c - 48)) fun d hd => h d (List.mem_cons_of_mem _ hd)
    refine Nat.lt_of_lt_of_le h2 ?_
    have e : (a + 1) * 10 ^ (c :: l).length = ((a + 1) * 10) * 10 ^ l.length := by rw [List.length_cons, Nat.pow_succ]; simp [Nat.mul_assoc, Nat.mul_comm (10 ^ l.length) 10]
    rw [e]
    exact Nat.mul_le_mul_right _ (by omega)
theorem digs_val (s : List Nat) : NumText.digitsVal (digs s) < 10 ^ 20 := by
  have h := foldl_lt (digs s) 0 (digs_dig s)
  unfold NumText.digitsVal
  refine Nat.lt_of_lt_of_le h ?_
  rw [Nat.zero_add, Nat.one_mul]
  exact Nat.pow_le_pow_right (by decide) (digs_20 s)
theorem rdNum_good {s : List Nat} {p : Paper} {n k : Nat} (h : rdNum s = .ok p n) : good k p := by
  unfold rdNum at h
  split at h
  · split at h
    · cases h
    · split at h
      · cases h
      · injection h with h _; subst h
        have := digs_val s.tail
        unfold good
        omega
  · split at h
    · injection h with h _; subst h
      unfold good; decide
    · split at h
      · cases h
      · injection h with h _; subst h
        have := digs_val s
        unfold good
        omega
theorem inn_free (t : List Nat) : 34 ∉ inn t := by
  intro h
  have : ∀ (l : List Nat), 34 ∈ inn l → False := by
    intro l
    induction l with
    | nil => intro h; simp [inn] at h
    | cons a l ih =>
      intro h
      rw [inn_cons] at h
      split at h
      · rename_i ha
        rcases List.mem_cons.mp h with z | h
        · exact ha z.symm
        · exact ih h
      · simp at h
  exact this t h
theorem goods_snoc {k : Nat} {p : Paper} : ∀ {l : List Paper}, goods k l → good k p → goods k (l ++ [p])
  | [], _, h => by show goods k [p]; unfold goods; exact ⟨h, by unfold goods; trivial⟩
  | a :: l, hl, h => by
    unfold goods at hl
    show goods k (a :: (l ++ [p]))
    unfold goods
    exact ⟨hl.1, goods_snoc hl.2 h⟩
theorem loop_good {k : Nat} (ih : ∀ s p n, rd k s = .ok p n → good k p) : ∀ (m : Nat) (first : Bool) (s : List Nat) (acc l : List Paper) (n : Nat), s.length ≤ m → goods k acc → loop (rd k) first s acc = .ok l n → goods k l := by
  intro m
  induction m with
  | zero =>
    intro first s acc l n hm ha h
    have hs : s = [] := by cases s with | nil => rfl | cons a b => simp at hm
    subst hs
    by_cases h2 : first = true ∨ ([] : List Nat).head? = some 32
    · cases e : rd k (([] : List Nat).drop (off first)) with
      | bad j => rw [loop_bad (by simp) h2 e] at h; cases h
      | ok p j => rw [loop_junk (by simp) h2 e (by simp; omega)] at h; cases h
    · have hf : first = false := by cases first with | true => exact absurd (.inl rfl) h2 | false => rfl
      subst hf
      rw [loop_gap (by simp) (by simp)] at h; cases h
  | succ m ihm =>
    intro first s acc l n hm ha h
    by_cases h1 : s.head? = some 41
    · rw [loop_end h1] at h
      injection h with h _
      subst h; exact ha
    by_cases h2 : first = true ∨ s.head? = some 32
    · cases e : rd k (s.drop (off first)) with
      | bad j => rw [loop_bad h1 h2 e] at h; cases h
      | ok p j =>
        by_cases hn : 0 < j ∧ off first + j ≤ s.length
        · rw [loop_ok h1 h2 e hn] at h
          cases e2 : loop (rd k) false (s.drop (off first + j)) (acc ++ [p]) with
          | bad i => rw [e2] at h; cases h
          | ok l' i =>
            rw [e2] at h
            unfold Res.shift at h
            injection h with h _
            subst h
            exact ihm _ _ _ _ _ (by rw [List.length_drop]; omega) (goods_snoc ha (ih _ _ _ e)) e2
        · rw [loop_junk h1 h2 e hn] at h; cases h
    · have hf : first = false := by cases first with | true => exact absurd (.inl rfl) h2 | false => rfl
      subst hf
      rw [loop_gap h1 (fun z => h2 (.inr z))] at h; cases h
theorem rd_good : ∀ (k : Nat) (s : List Nat) (p : Paper) (n : Nat), rd k s = .ok p n → good k p := by
  intro k
  induction k with
  | zero =>
    intro s p n h
    rcases rd_cases s with ⟨t, rfl⟩ | ⟨t, rfl⟩ | ⟨t, rfl⟩ | ⟨h1, h2, h3⟩
    · rw [rd_str] at h; unfold rdStr at h; split at h
      · cases h
      · injection h with h _; subst h; unfold good; exact inn_free t
    · rw [rd_none] at h
      have e : p = .non := by
        unfold rdNone at h
        by_cases h1 : t[0]? ≠ some 111
        · rw [if_pos h1] at h; cases h
        rw [if_neg h1] at h
        by_cases h2 : t[1]? ≠ some 110
        · rw [if_pos h2] at h; cases h
        rw [if_neg h2] at h
        by_cases h3 : t[2]? ≠ some 101
        · rw [if_pos h3] at h; cases h
        rw [if_neg h3] at h
        injection h with h _; exact h.symm
      subst e; unfold good; trivial
    · rw [rd_zero] at h; cases h
    · rw [rd_num 0 s h1 h2 h3] at h; exact rdNum_good h
  | succ k ih =>
    intro s p n h
    rcases rd_cases s with ⟨t, rfl⟩ | ⟨t, rfl⟩ | ⟨t, rfl⟩ | ⟨h1, h2, h3⟩
    · rw [rd_str] at h; unfold rdStr at h; split at h
      · cases h
      · injection h with h _; subst h; unfold good; exact inn_free t
    · rw [rd_none] at h
      have e : p = .non := by
        unfold rdNone at h
        by_cases h1 : t[0]? ≠ some 111
        · rw [if_pos h1] at h; cases h
        rw [if_neg h1] at h
        by_cases h2 : t[1]? ≠ some 110
        · rw [if_pos h2] at h; cases h
        rw [if_neg h2] at h
        by_cases h3 : t[2]? ≠ some 101
        · rw [if_pos h3] at h; cases h
        rw [if_neg h3] at h
        injection h with h _; exact h.symm
      subst e; unfold good; trivial
    · rw [rd_tup] at h
      cases e : loop (rd k) true t [] with
      | bad j => rw [e] at h; cases h
      | ok l j =>
        rw [e] at h
        injection h with h _; subst h
        unfold good
        exact loop_good ih _ _ _ _ _ _ (Nat.le_refl _) (by unfold goods; trivial) e
    · rw [rd_num _ s h1 h2 h3] at h; exact rdNum_good h
theorem told_good {s : List Nat} {q : Paper} (h : told s = .paper q) : good 60 q := by
  unfold told at h
  cases e : rd 60 s with
  | bad m => rw [e] at h; cases h
  | ok p n =>
    rw [e] at h
    change (if n < s.length then Told.bad n else Told.paper p) = Told.paper q at h
    by_cases z : n < s.length
    · rw [if_pos z] at h; cases h
    · rw [if_neg z] at h
      injection h with h; subst h
      exact rd_good 60 s p n e
section
variable {P : Program} {w : World} {K : PySem.W.Frag} {mg : Str → Option Value} {base : Heap} {CB fB cB dB CR : Addr}
theorem lk_at (v : V) : List.lookup ("at" : Str) [(("at" : Str), v)] = some v := by simp [List.lookup]
abbrev s_l_told : Stmt := top 20
theorem sc_l_told : FnScope ["text", "e"] ["text"] (defScope s_l_told) := ⟨rfl, rfl, rfl, by decide +kernel, rfl, by decide +kernel, by decide +kernel⟩

theorem ok_told {n : Nat} {f : Addr} {fd : FuncData} (F : Fun K "_law_told" "_law_told" s_l_told f fd) (T : Txt P K mg CB fB cB dB CR) (C_read_paper : CalX P w K mg base (L2.CX P w) n "read_paper" (spReadF CB)) : FnOk P w K mg base CX0 (n + 1) f fd ["text"] spTold := by
  refine F.ok sc_l_told (fun vs H Q E h => ?_) (fun cdv A outer s0 H vs Q E hr h => ?_)
  · obtain ⟨cs, rfl, _⟩ := h
    rfl
  obtain ⟨cs, rfl, hT, kk⟩ := h
  have hr : Room n _ := hr
  refine ⟨_, (pss_one (ps_try_as (i := 1) (Wout := fun _ _ _ _ => False) rfl rfl sc_l_told.nd rfl rfl ⟨rfl, by decide, .inl T.g_BadPaper⟩ takes0
      (fun W pn xe tk _ => (pss_one (ps_ret (pe_tup (pa_cons pe_str (pa_cons (pe_uS C_read_paper hr (by omega) (fun σ => passAt tk σ) (pa_cons (pv 0) pa_nil)) pa_nil))))))
      (fun a oe cls d pn hz hf => (pss_one (ps_ret (pe_tup (pa_cons pe_str (pa_cons (pe_xf (T.x_BadPaper.xf) T.x_BadPaper.noN hz hf (pv 1)) pa_nil)))))))), ?_⟩
  refine ⟨_, rfl, cs, rfl, hT, ?_⟩
  cases e : told cs with
  | paper q =>
    rw [e] at kk
    intro v H1 s1 pv
    exact ⟨by show 2 ≤ sizeLine; decide, fun p hp => kk _ _ (s1.trans (Same.upd hp)) ⟨p, v, rfl, upd_same, pv.same (Same.upd hp)⟩⟩
  | bad m =>
    rw [e] at kk
    intro dd H1 s1 hdd hx
    refine ⟨true, T.x_BadPaper.te, fun _ a ha => ?_, fun z => nomatch z⟩
    refine ⟨_, rfl, rfl, rfl, dd, _, _, rfl, hx, lk_at _, by show 2 ≤ sizeLine; decide, fun p hp => ?_⟩
    exact kk _ _ (s1.trans (Same.upd hp)) ⟨p, rfl, upd_same⟩
end
end Toy

set_option Elab.async false
set_option linter.all false
set_option maxRecDepth 100000
set_option maxHeartbeats 4000000
namespace Toy
open PySem L2 TL
open SX (S)
theorem sg_ok : ∀ x ∈ [V.str (Str.ofString "("), V.str (Str.ofString ")"), V.str (Str.ofString " "), V.str (Str.ofString "-"), V.str (Str.ofString "0"), V.str (Str.ofString "7"), V.str (Str.ofString "n"), V.str (Str.ofString "o"), V.str (Str.ofString "e"), V.str (Str.ofString "\""), V.str (Str.ofString "x"), V.str (Str.ofString "")],
    ∃ sg, x = .str (S sg) ∧ sg.length ≤ 1 ∧ ∀ c ∈ sg, okc c := by
  intro x hx
  have e7 : Str.ofString "7" = S [55] := by decide +kernel
  have eo : Str.ofString "o" = S [111] := by decide +kernel
  have ee : Str.ofString "e" = S [101] := by decide +kernel
  have ex : Str.ofString "x" = S [120] := by decide +kernel
  have one : ∀ c, okc c → ∃ sg, V.str (S [c]) = .str (S sg) ∧ sg.length ≤ 1 ∧ ∀ c ∈ sg, okc c := fun c h => ⟨[c], rfl, by simp, by simpa using h⟩
  simp only [List.mem_cons, List.not_mem_nil, or_false] at hx
  rcases hx with rfl | rfl | rfl | rfl | rfl | rfl | rfl | rfl | rfl | rfl | rfl | rfl
  · rw [s_op]; exact one _ (by decide)
  · rw [s_cl]; exact one _ (by decide)
  · rw [s_sp]; exact one _ (by decide)
  · rw [s_mi]; exact one _ (by decide)
  · rw [s_0]; exact one _ (by decide)
  · rw [e7]; exact one _ (by decide)
  · rw [s_n]; exact one _ (by decide)
  · rw [eo]; exact one _ (by decide)
  · rw [ee]; exact one _ (by decide)
  · rw [s_q]; exact one _ (by decide)
  · rw [ex]; exact one _ (by decide)
  · rw [s_e]; exact ⟨[], rfl, by simp, by simp⟩
theorem sh_pair (s : Str) (h : PyData.strOk s = true) (m : Int) : SeqAt.shaped (.tuple [.str s, .int m]) = true := by
  unfold SeqAt.shaped
  simp [PyData.canLay0, PyData.canLayAll0, PyData.depth, PyData.depthAll, h]
theorem sh_bad (m : Int) : SeqAt.shaped (.tuple [.str (Str.ofString "bad"), .int m]) = true := sh_pair _ (by decide +kernel) m
theorem sh_pap (m : Int) : SeqAt.shaped (.tuple [.str (Str.ofString "paper"), .int m]) = true := sh_pair _ (by decide +kernel) m
theorem eqv_pap (n : Int) : PyData.eqv (.tuple [.str (Str.ofString "paper"), .int n]) (.tuple [.str (Str.ofString "paper"), .int n]) = true := by
  simp [PyData.eqv, PyData.eqvAll]
theorem int_long : PySem.intText? (S (List.replicate 20 49)) = some ((11111111111111111111 : Nat) : Int) := by
  rw [PySem.intText_digits (x := S (List.replicate 20 49)) (by unfold PySem.NumText.AllDigits; decide +kernel) (by decide +kernel) (by decide +kernel)]
  decide +kernel
theorem s_m0 : Str.ofString "-0" = S [45, 48] := by decide +kernel
theorem s_00 : Str.ofString "00" = S [48, 48] := by decide +kernel
theorem s_mb : Str.ofString "- " = S [45, 32] := by decide +kernel
theorem okT_s {cs : List Nat} (h : ∀ c ∈ cs, okc c) (hl : cs.length ≤ 100 := by decide) : okT cs := ⟨h, by omega⟩
theorem s_bad : Str.ofString "bad" = Str.ofString "bad" := rfl
theorem eqv_bad (n : Nat) : PyData.eqv (.tuple [.str (Str.ofString "bad"), .int (n : Int)]) (.tuple [.str (Str.ofString "bad"), .int (n : Int)]) = true := by
  simp [PyData.eqv, PyData.eqvAll]
theorem s_long : Txt.mul (Str.ofString "1") 20 = S (List.replicate 20 49) := by decide +kernel
theorem rdNum_bad {s : List Nat} {n : Nat} (h : rdNum s = .bad n) : n ≤ 1 := by
  unfold rdNum at h
  split at h
  · split at h
    · injection h with h; omega
    · split at h
      · injection h with h; omega
      · cases h
  · split at h
    · cases h
    · split at h
      · injection h with h; omega
      · cases h
theorem rdNone_bad {s : List Nat} {n : Nat} (h : rdNone s = .bad n) : n ≤ 3 := by
  unfold rdNone at h
  split at h
  · injection h with h; omega
  · split at h
    · injection h with h; omega
    · split at h
      · injection h with h; omega
      · cases h
theorem rdStr_bad {s : List Nat} {n : Nat} (h : rdStr s = .bad n) : n ≤ s.length + 1 := by
  unfold rdStr at h
  split at h
  · injection h with h; omega
  · cases h
theorem loop_bsize {rdp : List Nat → Res Paper} (hb : ∀ s n, rdp s = .bad n → n ≤ s.length + 3) : ∀ (m : Nat) (first : Bool) (s : List Nat) (acc : List Paper) (n : Nat), s.length ≤ m → loop rdp first s acc = .bad n → n ≤ s.length + 3 := by
  intro m
  induction m with
  | zero =>
    intro first s acc n hm h
    have hs : s = [] := by cases s with | nil => rfl | cons a b => simp at hm
    subst hs
    by_cases h2 : first = true ∨ ([] : List Nat).head? = some 32
    · have hf : first = true := by rcases h2 with z | z; exact z; simp at z
      subst hf
      cases e : rdp (([] : List Nat).drop (off true)) with
      | bad j =>
        rw [loop_bad (by simp) h2 e] at h
        have := hb _ _ e
        injection h with h
        simp [off] at h this ⊢; omega
      | ok p j =>
        rw [loop_junk (by simp) h2 e (by simp; omega)] at h
        injection h with h; omega
    · have hf : first = false := by cases first with | true => exact absurd (.inl rfl) h2 | false => rfl
      subst hf
      rw [loop_gap (by simp) (by simp)] at h
      injection h with h; omega
  | succ m ih =>
    intro first s acc n hm h
    by_cases h1 : s.head? = some 41
    · rw [loop_end h1] at h; cases h
    by_cases h2 : first = true ∨ s.head? = some 32
    · have ho : off first ≤ s.length := by
        rcases h2 with z | z
        · subst z; exact Nat.zero_le _
        · cases s with
          | nil => simp at z
          | cons a r => cases first <;> simp [off]
      cases e : rdp (s.drop (off first)) with
      | bad j =>
        rw [loop_bad h1 h2 e] at h
        have := hb _ _ e
        rw [List.length_drop] at this
        injection h with h; omega
      | ok p j =>
        by_cases hn : 0 < j ∧ off first + j ≤ s.length
        · rw [loop_ok h1 h2 e hn] at h
          cases e2 : loop rdp false (s.drop (off first + j)) (acc ++ [p]) with
          | bad i =>
            rw [e2] at h
            have z := ih _ _ _ _ (by rw [List.length_drop]; omega) e2
            rw [List.length_drop] at z
            unfold Res.shift at h
            injection h with h; omega
          | ok l' i => rw [e2] at h; cases h
        · rw [loop_junk h1 h2 e hn] at h
          injection h with h; omega
    · have hf : first = false := by cases first with | true => exact absurd (.inl rfl) h2 | false => rfl
      subst hf
      rw [loop_gap h1 (fun z => h2 (.inr z))] at h
      injection h with h; omega
theorem rd_bsize : ∀ (k : Nat) (s : List Nat) (n : Nat), rd k s = .bad n → n ≤ s.length + 3 := by
  intro k
  induction k with
  | zero =>
    intro s n h
    rcases rd_cases s with ⟨t, rfl⟩ | ⟨t, rfl⟩ | ⟨t, rfl⟩ | ⟨h1, h2, h3⟩
    · rw [rd_str] at h; have := rdStr_bad h; simp only [List.length_cons]; omega
    · rw [rd_none] at h; have := rdNone_bad h; omega
    · rw [rd_zero] at h; injection h with h; omega
    · rw [rd_num 0 s h1 h2 h3] at h; have := rdNum_bad h; omega
  | succ k ih =>
    intro s n h
    rcases rd_cases s with ⟨t, rfl⟩ | ⟨t, rfl⟩ | ⟨t, rfl⟩ | ⟨h1, h2, h3⟩
    · rw [rd_str] at h; have := rdStr_bad h; simp only [List.length_cons]; omega
    · rw [rd_none] at h; have := rdNone_bad h; omega
    · rw [rd_tup] at h
      cases e : loop (rd k) true t [] with
      | ok l j => rw [e] at h; cases h
      | bad j =>
        rw [e] at h
        have := loop_bsize ih _ _ _ _ _ (Nat.le_refl _) e
        injection h with h
        simp only [List.length_cons]; omega
    · rw [rd_num _ s h1 h2 h3] at h; have := rdNum_bad h; omega
theorem told_bsize {s : List Nat} {n : Nat} (h : told s = .bad n) : n ≤ s.length + 3 := by
  unfold told at h
  cases e : rd 60 s with
  | bad m =>
    rw [e] at h
    have := rd_bsize _ _ _ e
    injection h with h; omega
  | ok p m =>
    rw [e] at h
    change (if m < s.length then Told.bad m else Told.paper p) = Told.bad n at h
    by_cases z : m < s.length
    · rw [if_pos z] at h; injection h with h; omega
    · rw [if_neg z] at h; cases h
def spLaw (K : PySem.W.Frag) : Sp := fun vs H Q _ => ∃ (a : Addr) (ns : List Int), vs = [.ref a] ∧ SqL K H a (ns.map V.int) ∧ ns.length ≤ 63 ∧ ∀ H', Q (.bl true) H'
theorem okT_of {cs : List Nat} (h : ∀ c ∈ cs, okc c) (hl : cs.length ≤ 100000) : okT cs := ⟨h, hl⟩
theorem deep_ok : ∀ c ∈ wr (deepP 59), okc c := by
  rw [wr_deep]
  intro c hc
  rcases List.mem_append.mp hc with h | h
  · rw [List.eq_of_mem_replicate h]; decide
  · rw [List.eq_of_mem_replicate h]; decide
theorem deep_len : (wr (deepP 59)).length = 120 := by rw [wr_deep]; simp
section
variable {P : Program} {w : World} {K : PySem.W.Frag} {mg : Str → Option Value} {base : Heap} {CB fB cB dB CR : Addr}
theorem TT.same {H H' : Hp} {v : V} {t : Told} (s : Same H H') (h : TT H v t) : TT H' v t := by
  cases t with
  | paper q =>
    obtain ⟨a, u, rfl, ha, pv⟩ := h
    exact ⟨a, u, rfl, s _ _ ha, pv.same s⟩
  | bad n =>
    obtain ⟨a, rfl, ha⟩ := h
    exact ⟨a, rfl, s _ _ ha⟩
theorem bad_dp {H : Hp} {v : V} {n : Nat} (h : TT H v (.bad n)) : Dp K H v (.tuple [.str (Str.ofString "bad"), .int (n : Int)]) := by
  obtain ⟨a, rfl, ha⟩ := h
  exact .tup (SqT.of ha) (.cons (.str _) (.cons (.int _) .nil))
theorem int_dp {H : Hp} {v : V} {i : Int} (h : TT H v (.paper (.int i))) : Dp K H v (.tuple [.str (Str.ofString "paper"), .int i]) := by
  obtain ⟨a, u, rfl, ha, pv⟩ := h
  cases pv
  exact .tup (SqT.of ha) (.cons (.str _) (.cons (.int _) .nil))
abbrev s_law : Stmt := top 22
theorem sc_law : FnScope ["script", "d", "turn", "paper", "text", "at", "sign", "other", "due", "told", "deep", "long"] ["script"] (defScope s_law) := ⟨rfl, rfl, rfl, by decide +kernel, rfl, by decide +kernel, by decide +kernel⟩

theorem ok_law {n : Nat} (hn : 130 ≤ n) {f : Addr} {fd : FuncData} (F : Fun K "law" "law" s_law f fd) (T : Txt P K mg CB fB cB dB CR) (C__law_begin : CalX P w K mg base CX0 1 "_law_begin" (spBegin K)) (C__law_draw : CalX P w K mg base CX0 1 "_law_draw" spDraw) (C__law_pick : CalX P w K mg base CX0 2 "_law_pick" spPick)
    (C__law_paper : CalX P w K mg base CX0 8 "_law_paper" (spPap 6)) (C__law_written_paper : CalX P w K mg base CX0 61 "_law_written_paper" (spW 61)) (C_write_paper : CalX P w K mg base CX0 61 "write_paper" (spW 61)) (C__law_same : CalX P w K mg base CX0 62 "_law_same" (spSame 61))
    (C_read_paper : CalX P w K mg base (L2.CX P w) n "read_paper" (spReadF CB)) (C__law_due : CalX P w K mg base CX0 n "_law_due" spTold) (C__law_told : CalX P w K mg base CX0 n "_law_told" spTold)
    (C__law_deep : CalX P w K mg base CX0 1 "_law_deep" (fun vs H Q _ => vs = [.int 60] ∧ ∀ v H', Same H H' → PV H' v (deepP 59) → Q v H')) : FnOk P w K mg base CX0 (n + 1) f fd ["script"] (spLaw K) := by
  refine F.ok sc_law (fun vs H Q E h => ?_) (fun cdv A outer s0 H vs Q E hr h => ?_)
  · obtain ⟨a, ns, rfl, _⟩ := h
    rfl
  obtain ⟨a, ns, rfl, hS, hl, kk⟩ := h
  have hr : Room n _ := hr
  refine ⟨_, (pss_cons (ps_set (i := 1) sc_law.nd rfl (Or.inl rfl) (pe_u C__law_begin hr (by omega) pass0 (pa_cons (pv 0) pa_nil)))
    (pss_cons (ps_for PassesOwn.never rfl (pi_range1 (by rfl) T.z_range (pa_cons pe_int pa_nil)) (pg_name (i := 2) sc_law.nd rfl (Or.inl rfl)) (pss_cons (ps_set (i := 3) sc_law.nd rfl (Or.inl rfl) (pe_u C__law_paper hr (by omega) pass0 (pa_cons (pv 1) (pa_cons pe_int pa_nil))))
    (pss_cons (ps_set (i := 4) sc_law.nd rfl (Or.inl rfl) (pe_u C__law_written_paper hr (by omega) pass0 (pa_cons (pv 3) pa_nil)))
    (pss_cons (ps_if (PW.pt (pw_or (pt_cmpR op_ne (pe_u C_write_paper hr (by omega) pass0 (pa_cons (pv 3) pa_nil)) (pv 4) (nomark _)) (pw_or1 (pt_not (pt_val (pe_u C__law_same hr (by omega) pass0 (pa_cons (pe_u C_read_paper hr (by omega) passL (pa_cons (pv 4) pa_nil)) (pa_cons (pv 3) pa_nil)))))))) (pss_one (ps_ret pe_bl)) pss_nil)
    (pss_cons (ps_set (i := 5) sc_law.nd rfl (Or.inl rfl) (pe_u C__law_draw hr (by omega) pass0 (pa_cons (pv 1) (pa_cons (pe_op op_add (pe_callB call_len (by rfl) T.z_len b_len (pa_cons (pv 4) pa_nil)) pe_int) pa_nil))))
    (pss_cons (ps_set (i := 6) sc_law.nd rfl (Or.inl rfl) (pe_u C__law_pick hr (by omega) pass0 (pa_cons (pv 1) (pa_cons (pe_lst (pa_cons pe_str (pa_cons pe_str (pa_cons pe_str (pa_cons pe_str (pa_cons pe_str (pa_cons pe_str (pa_cons pe_str (pa_cons pe_str (pa_cons pe_str (pa_cons pe_str (pa_cons pe_str (pa_cons pe_str pa_nil))))))))))))) pa_nil))))
    (pss_one (ps_for PassesOwn.never rfl (pi_list (pe_lst (pa_cons (pe_slice C8.sl_txt (pv 4) po_none (po_some (pv 5))) (pa_cons (pe_op op_add_str (pe_op op_add_str (pe_slice C8.sl_txt (pv 4) po_none (po_some (pv 5))) (pv 6)) (pe_slice C8.sl_txt (pv 4) (po_some (pv 5)) po_none)) (pa_cons (pe_op op_add_str (pe_op op_add_str (pe_slice C8.sl_txt (pv 4) po_none (po_some (pv 5))) (pv 6)) (pe_slice C8.sl_txt (pv 4) (po_some (pe_op op_add (pv 5) pe_int)) po_none)) (pa_cons (pe_op op_add_str (pv 4) (pv 6)) (pa_cons (pe_op op_add_str (pv 6) (pv 4)) pa_nil))))))) (pg_name (i := 7) sc_law.nd rfl (Or.inl rfl)) (pss_cons (ps_set (i := 8) sc_law.nd rfl (Or.inl rfl) (pe_u C__law_due hr (by omega) pass0 (pa_cons (pv 7) pa_nil)))
    (pss_cons (ps_set (i := 9) sc_law.nd rfl (Or.inl rfl) (pe_u C__law_told hr (by omega) pass0 (pa_cons (pv 7) pa_nil)))
    (pss_one (ps_if (PW.pt (pw_or (pt_cmpR op_ne (pe_ix ix_tup (pv 9) pe_int (fun _ _ => rfl)) (pe_ix ix_tup (pv 8) pe_int (fun _ _ => rfl)) (nomark _)) (pw_or1 (pt_not (pt_val (pe_u C__law_same hr (by omega) pass0 (pa_cons (pe_ix ix_tup (pv 9) pe_int (fun _ _ => rfl)) (pa_cons (pe_ix ix_tup (pv 8) pe_int (fun _ _ => rfl)) pa_nil)))))))) (pss_one (ps_ret pe_bl)) pss_nil))))))))))))
    (pss_cons (ps_set (i := 10) sc_law.nd rfl (Or.inl rfl) (pe_u C__law_deep hr (by omega) pass0 (pa_cons pe_int pa_nil)))
    (pss_cons (ps_if (PW.pt (pw_or (pt_not (pt_val (pe_u C__law_same hr (by omega) pass0 (pa_cons (pe_u C_read_paper hr (by omega) passL (pa_cons (pe_u C_write_paper hr (by omega) pass0 (pa_cons (pv 10) pa_nil)) pa_nil)) (pa_cons (pv 10) pa_nil))))) (pw_or1 (pt_cmpR (op_neD hr.units) (pe_u C__law_told hr (by omega) pass0 (pa_cons (pe_op op_add_str (pe_op op_add_str pe_str (pe_u C_write_paper hr (by omega) pass0 (pa_cons (pv 10) pa_nil))) pe_str) pa_nil)) (pe_tup (pa_cons pe_str (pa_cons pe_int pa_nil))) (nomark _))))) (pss_one (ps_ret pe_bl)) pss_nil)
    (pss_cons (ps_set (i := 11) sc_law.nd rfl (Or.inl rfl) (pe_op op_mul_str pe_str pe_int))
    (pss_cons (ps_if (PW.pt (pw_or (pt_cmpR (op_neD hr.units) (pe_u C__law_told hr (by omega) pass0 (pa_cons (pv 11) pa_nil)) (pe_tup (pa_cons pe_str (pa_cons (pe_callTy call_int_str (by rfl) T.z_int b_int (pa_cons (pv 11) pa_nil)) pa_nil))) (nomark _)) (pw_or1 (pt_cmpR (op_neD hr.units) (pe_u C__law_told hr (by omega) pass0 (pa_cons (pe_op op_add_str (pv 11) pe_str) pa_nil)) (pe_tup (pa_cons pe_str (pa_cons pe_int pa_nil))) (nomark _))))) (pss_one (ps_ret pe_bl)) pss_nil)
    (pss_one (ps_ret (pe_and (pe_cmpR (op_eqD hr.units) (pe_u C__law_told hr (by omega) pass0 (pa_cons pe_str pa_nil)) (pe_tup (pa_cons pe_str (pa_cons pe_int pa_nil))) (nomark _)) (pe_and (pe_cmpR (op_eqD hr.units) (pe_u C__law_told hr (by omega) pass0 (pa_cons pe_str pa_nil)) (pe_tup (pa_cons pe_str (pa_cons pe_int pa_nil))) (nomark _)) (pe_one (pe_cmpR (op_eqD hr.units) (pe_u C__law_told hr (by omega) pass0 (pa_cons pe_str pa_nil)) (pe_tup (pa_cons pe_str (pa_cons pe_int pa_nil))) (nomark _))))))))))))), ?_⟩
  refine ⟨_, rfl, a, ns, rfl, hS, hl, fun d l ms H1 s1 D1 => ?_⟩
  refine ⟨_, rfl, by decide, by decide, for_range (lo := 0) (n := 3) (fun j σ H' => Dr H' d l ms ∧ ∃ g2 g3 g4 g5 g6 g7 g8 g9, σ = [some (.ref a), some (.ref d), g2, g3, g4, g5, g6, g7, g8, g9, none, none]) ⟨D1, _, _, _, _, _, _, _, _, rfl⟩ (fun j σ H' hj h => ?_) (fun σ H' h => ?_)⟩
  · obtain ⟨D2, g2, g3, g4, g5, g6, g7, g8, g9, rfl⟩ := h
    refine ⟨_, rfl, d, l, ms, rfl, D2, fun v p H3 pv okp k3 D3 => ?_⟩
    obtain ⟨cs, hcs⟩ : ∃ cs, cs = wr p := ⟨_, rfl⟩
    have hcl : cs.length ≤ 9000 := by have := okp.2.1; rw [hcs]; exact Nat.le_trans this (by decide)
    have hco : ∀ c ∈ cs, okc c := by rw [hcs]; exact okp.2.2
    have hcT : okT cs := ⟨hco, by omega⟩
    have hg := good_mono p 5 60 (by decide) okp.1
    have hcl' : (wr p).length ≤ 100000 := by rw [← hcs]; omega
    refine ⟨_, rfl, v, p, rfl, pv, hg, hcl', fun H4 s4 => ?_⟩
    refine ⟨_, rfl, v, p, rfl, pv.same s4, hg, hcl', fun H5 s5 => ⟨_, rfl, rfl, _, rfl, ifF (by simp) ?_⟩⟩
    refine ⟨_, rfl, wr p, rfl, by rw [← hcs]; exact hcT, ?_⟩
    rw [told_wr hg]
    intro u H6 s6 pu
    refine ⟨_, rfl, u, v, p, rfl, pu, pv.same (s4.trans (s5.trans s6)), hg, fun H7 s7 => ⟨_, rfl, ifF (by decide) ?_⟩⟩
    have D7 : Dr H7 d l ms := D3.same (s4.trans (s5.trans (s6.trans s7)))
    rw [← hcs]
    refine ⟨_, rfl, _, rfl, _, _, rfl, ⟨hcT.line, rfl⟩, _, _, rfl, rfl, d, l, ms, _, rfl, D7, by rw [slen]; omega, by rw [slen]; omega, fun r H8 r0 r1 k8 D8 => ?_⟩
    rw [slen] at r1
    refine ⟨_, rfl, by show 12 ≤ sizeLine; decide, fun q hq => ?_⟩
    obtain ⟨hqd, hql⟩ := D8.new_ne hq
    refine ⟨d, l, q, ms, _, rfl, D8.same (Same.upd hq), hqd, upd_same, by simp, by simp, fun x H9 hx k9 D9 => ?_⟩
    obtain ⟨sg, rfl, hsl, hsg⟩ := sg_ok x hx
    obtain ⟨m, rfl⟩ : ∃ m : Nat, r = (m : Int) := ⟨r.toNat, by omega⟩
    have hm : m ≤ cs.length := by omega
    have e1 : Txt.slice (S cs) none (some (m : Int)) = S (cs.take m) := by rw [SX.slice_to (by omega)]; rfl
    have e2 : Txt.slice (S cs) (some (m : Int)) none = S (cs.drop m) := by rw [SX.slice_from (by omega)]; rfl
    have e3 : Txt.slice (S cs) (some ((m : Int) + 1)) none = S (cs.drop (m + 1)) := by rw [SX.slice_from (by omega), show ((m : Int) + 1).toNat = m + 1 by omega]
    have ln : ∀ l : List Nat, l.length ≤ 30000 → (S l).length ≤ sizeLine := fun l h => by rw [slen]; exact small_line (by omega)
    have ln2 : ∀ l l' : List Nat, l.length ≤ 30000 → l'.length ≤ 30000 → (S l).length + (S l').length ≤ sizeLine := fun l l' h h' => by rw [slen, slen]; exact small_line (by omega)
    have t1 : (cs.take m).length ≤ 9000 := by rw [List.length_take]; omega
    have t2 : (cs.drop m).length ≤ 9000 := by rw [List.length_drop]; omega
    have t3 : (cs.drop (m + 1)).length ≤ 9000 := by rw [List.length_drop]; omega
    have t4 : (cs.take m ++ sg).length ≤ 9001 := by rw [List.length_append]; omega
    -- text[:at]
    refine ⟨_, rfl, _, rfl, _, rfl, _, rfl, hcT.line, ?_⟩
    rw [e1]
    -- text[:at] + sign + text[at:]
    refine ⟨_, rfl, _, rfl, _, rfl, _, rfl, hcT.line, ?_⟩
    rw [e1]
    refine ⟨_, rfl, _, _, rfl, rfl, ln2 _ _ (by omega) (by omega), ?_⟩
    rw [SX.S_cat]
    refine ⟨_, rfl, _, rfl, _, rfl, _, rfl, hcT.line, ?_⟩
    rw [e2]
    refine ⟨_, _, rfl, rfl, ln2 _ _ (by omega) (by omega), ?_⟩
    rw [SX.S_cat]
    -- text[:at] + sign + text[at + 1:]
    refine ⟨_, rfl, _, rfl, _, rfl, _, rfl, hcT.line, ?_⟩
    rw [e1]
    refine ⟨_, rfl, _, _, rfl, rfl, ln2 _ _ (by omega) (by omega), ?_⟩
    rw [SX.S_cat]
    refine ⟨_, rfl, _, rfl, _, _, rfl, rfl, _, rfl, _, rfl, hcT.line, ?_⟩
    rw [e3]
    refine ⟨_, _, rfl, rfl, ln2 _ _ (by omega) (by omega), ?_⟩
    rw [SX.S_cat]
    refine ⟨_, rfl, _, rfl, _, _, rfl, rfl, ln2 _ _ (by omega) (by omega), ?_⟩
    rw [SX.S_cat]
    refine ⟨_, rfl, _, rfl, _, _, rfl, rfl, ln2 _ _ (by omega) (by omega), ?_⟩
    rw [SX.S_cat]
    refine ⟨by show 5 ≤ sizeLine; decide, fun L hL => ?_⟩
    obtain ⟨ts, hts⟩ : ∃ ts : List (List Nat), ts = [cs.take m, cs.take m ++ sg ++ cs.drop m, cs.take m ++ sg ++ cs.drop (m + 1), cs ++ sg, sg ++ cs] := ⟨_, rfl⟩
    have hok : ∀ t ∈ ts, okT t := by
      have m1 : ∀ c ∈ cs.take m, okc c := fun c h => hco c (List.mem_of_mem_take h)
      have m2 : ∀ c ∈ cs.drop m, okc c := fun c h => hco c (List.mem_of_mem_drop h)
      have m3 : ∀ c ∈ cs.drop (m + 1), okc c := fun c h => hco c (List.mem_of_mem_drop h)
      have app : ∀ {a b : List Nat}, (∀ c ∈ a, okc c) → (∀ c ∈ b, okc c) → ∀ c ∈ a ++ b, okc c := fun ha hb c h => (List.mem_append.mp h).elim (ha c) (hb c)
      intro t ht
      rw [hts] at ht
      simp only [List.mem_cons, List.not_mem_nil, or_false] at ht
      rcases ht with rfl | rfl | rfl | rfl | rfl
      · exact ⟨m1, by omega⟩
      · exact ⟨app (app m1 hsg) m2, by simp only [List.length_append]; omega⟩
      · exact ⟨app (app m1 hsg) m3, by simp only [List.length_append]; omega⟩
      · exact ⟨app hco hsg, by simp only [List.length_append]; omega⟩
      · exact ⟨app hsg hco, by simp only [List.length_append]; omega⟩
    have exs : [V.str (S (cs.take m)), V.str (S (cs.take m ++ sg ++ cs.drop m)), V.str (S (cs.take m ++ sg ++ cs.drop (m + 1))), V.str (S (cs ++ sg)), V.str (S (sg ++ cs))] = ts.map fun t => V.str (S t) := by rw [hts]; rfl
    rw [exs]
    obtain ⟨hLd, hLl⟩ := D9.new_ne hL
    refine ⟨L, rfl, ⟨_, SqL.of upd_same⟩, for_list (K := K) (a := L) (xs := ts.map fun t => V.str (S t)) (fun i σ H' => H' L = some (.lst (ts.map fun t => V.str (S t))) ∧ Dr H' d l ms ∧ ∃ g2 g3 g4 g5 g6 g7 g8 g9, σ = [some (.ref a), some (.ref d), g2, g3, g4, g5, g6, g7, g8, g9, none, none])
      ⟨upd_same, D9.same (Same.upd hL), _, _, _, _, _, _, _, _, rfl⟩ (fun i σ H' _ h => SqL.of h.1) (fun i x σ H' hx h => ?_) (fun σ H' h => ⟨h.2.1, h.2.2⟩)⟩
    obtain ⟨hL', DL, g2, g3, g4, g5, g6, g7, g8, g9, rfl⟩ := h
    rw [List.getElem?_map] at hx
    obtain ⟨t, ht, rfl⟩ := Option.map_eq_some_iff.mp hx
    have htT := hok t (List.mem_of_getElem? ht)
    refine ⟨_, rfl, t, rfl, htT, fun v1 Ha sa t1' => ?_⟩
    refine ⟨_, rfl, t, rfl, htT, fun v2 Hb sb t2' => ?_⟩
    have t1b := TT.same sb t1'
    cases et : told t with
    | paper q =>
      rw [et] at t1b t2'
      obtain ⟨a1, u1, rfl, ha1, pu1⟩ := t1b
      obtain ⟨a2, u2, rfl, ha2, pu2⟩ := t2'
      refine ⟨_, rfl, a2, _, 0, _, rfl, rfl, SqT.of ha2, rfl, _, rfl, a1, _, 0, _, rfl, rfl, SqT.of ha1, rfl, rfl, _, rfl, ifF (by simp) ?_⟩
      refine ⟨_, rfl, a2, _, 1, _, rfl, rfl, SqT.of ha2, rfl, _, rfl, a1, _, 1, _, rfl, rfl, SqT.of ha1, rfl, u2, u1, q, rfl, pu2, pu1, told_good et, fun Hc sc => ⟨_, rfl, ifF (by decide) ?_⟩⟩
      exact ⟨sc _ _ (sb _ _ (sa _ _ hL')), DL.same (sa.trans (sb.trans sc)), _, _, _, _, _, _, _, _, rfl⟩
    | bad j =>
      rw [et] at t1b t2'
      obtain ⟨a1, rfl, ha1⟩ := t1b
      obtain ⟨a2, rfl, ha2⟩ := t2'
      refine ⟨_, rfl, a2, _, 0, _, rfl, rfl, SqT.of ha2, rfl, _, rfl, a1, _, 0, _, rfl, rfl, SqT.of ha1, rfl, rfl, _, rfl, ifF (by simp) ?_⟩
      have hg : good 60 (.int (j : Int)) := by
        have h1 := told_bsize et
        have h2 := htT.2
        unfold good
        exact Nat.lt_of_le_of_lt (show ((j : Int)).natAbs ≤ 100003 by omega) (by decide)
      refine ⟨_, rfl, a2, _, 1, _, rfl, rfl, SqT.of ha2, rfl, _, rfl, a1, _, 1, _, rfl, rfl, SqT.of ha1, rfl, _, _, .int (j : Int), rfl, .int _, .int _, hg, fun Hc sc => ⟨_, rfl, ifF (by decide) ?_⟩⟩
      exact ⟨sc _ _ (sb _ _ (sa _ _ hL')), DL.same (sa.trans (sb.trans sc)), _, _, _, _, _, _, _, _, rfl⟩
  · obtain ⟨D2, g2, g3, g4, g5, g6, g7, g8, g9, rfl⟩ := h
    have hgd : good 60 (deepP 59) := good_deep 59
    have hwl : (wr (deepP 59)).length ≤ 100000 := by rw [deep_len]; decide
    refine ⟨rfl, fun v H3 s3 pv => ?_⟩
    refine ⟨_, rfl, v, deepP 59, rfl, pv, hgd, hwl, fun H4 s4 => ?_⟩
    refine ⟨wr (deepP 59), rfl, ⟨deep_ok, hwl⟩, ?_⟩
    rw [told_wr hgd]
    intro u H5 s5 pu
    refine ⟨_, rfl, u, v, deepP 59, rfl, pu, pv.same (s4.trans s5), hgd, fun H6 s6 => ⟨_, rfl, ifF (by decide) ?_⟩⟩
    refine ⟨_, rfl, v, deepP 59, rfl, pv.same (s4.trans (s5.trans s6)), hgd, hwl, fun H7 s7 => ?_⟩
    have ln2 : ∀ l l' : List Nat, l.length ≤ 30000 → l'.length ≤ 30000 → (S l).length + (S l').length ≤ sizeLine := fun l l' h h' => by rw [slen, slen]; exact small_line (by omega)
    have hd120 := deep_len
    rw [s_op, s_cl]
    refine ⟨_, _, rfl, rfl, ln2 _ _ (by simp) (by omega), ?_⟩
    rw [SX.S_cat]
    refine ⟨_, _, rfl, rfl, ln2 _ _ (by simp only [List.length_append, List.length_singleton]; omega) (by simp), ?_⟩
    rw [SX.S_cat]
    have eo : [40] ++ wr (deepP 59) ++ [41] = 40 :: (wr (deepP 59) ++ [41]) := by simp
    rw [eo]
    have okO : okT (40 :: (wr (deepP 59) ++ [41])) := by
      refine ⟨fun c hc => ?_, by simp only [List.length_cons, List.length_append, List.length_nil]; omega⟩
      simp only [List.mem_cons, List.mem_append, List.not_mem_nil, or_false] at hc
      rcases hc with rfl | hc | rfl
      · decide
      · exact deep_ok c hc
      · decide
    refine ⟨_, rfl, okO, fun v1 H8 s8 t8 => ?_⟩
    rw [told_open] at t8
    refine ⟨by show 2 ≤ sizeLine; decide, fun q hq => ?_⟩
    refine ⟨_, _, bad_dp (TT.same (Same.upd hq) t8), bad_dp ⟨q, rfl, upd_same⟩, sh_bad _, sh_bad _, _, rfl, ifF (by rw [eqv_bad 60]; decide) ?_⟩
    -- long
    refine ⟨_, _, rfl, rfl, ⟨by decide +kernel, fun _ _ => by decide +kernel, fun _ _ => by decide +kernel⟩, ?_⟩
    rw [s_long]
    refine ⟨_, rfl, _, rfl, okT_s (by decide), fun v2 H9 s9 t9 => ?_⟩
    rw [told_long] at t9
    refine ⟨_, rfl, _, _, rfl, int_long, by decide +kernel, by show 2 ≤ sizeLine; decide, fun q2 hq2 => ?_⟩
    refine ⟨_, _, int_dp (TT.same (Same.upd hq2) t9), .tup (SqT.of upd_same) (.cons (.str _) (.cons (.int _) .nil)), sh_pap _, sh_pap _, _, rfl, ifF (by rw [eqv_pap]; decide) ?_⟩
    refine ⟨_, rfl, _, _, rfl, rfl, by decide +kernel, ?_⟩
    rw [show Str.ofString "1" = S [49] by decide +kernel, SX.S_cat]
    refine ⟨_, rfl, okT_s (by decide), fun v3 H10 s10 t10 => ?_⟩
    rw [told_long1] at t10
    refine ⟨by show 2 ≤ sizeLine; decide, fun q3 hq3 => ?_⟩
    refine ⟨_, _, bad_dp (TT.same (Same.upd hq3) t10), bad_dp ⟨q3, rfl, upd_same⟩, sh_bad _, sh_bad _, _, rfl, ifF (by rw [eqv_bad 20]; decide) ?_⟩
    rw [s_m0, s_00, s_mb]
    refine ⟨_, rfl, okT_s (by decide), fun v4 H11 s11 t11 => ?_⟩
    rw [told_m0] at t11
    refine ⟨by show 2 ≤ sizeLine; decide, fun q4 hq4 => ?_⟩
    refine ⟨_, _, bad_dp (TT.same (Same.upd hq4) t11), bad_dp ⟨q4, rfl, upd_same⟩, sh_bad _, sh_bad _, _, rfl, ifT (eqv_bad 1) ?_⟩
    refine ⟨_, rfl, okT_s (by decide), fun v5 H12 s12 t12 => ?_⟩
    rw [told_00] at t12
    refine ⟨by show 2 ≤ sizeLine; decide, fun q5 hq5 => ?_⟩
    refine ⟨_, _, bad_dp (TT.same (Same.upd hq5) t12), bad_dp ⟨q5, rfl, upd_same⟩, sh_bad _, sh_bad _, _, rfl, ifT (eqv_bad 1) ?_⟩
    refine ⟨_, rfl, okT_s (by decide), fun v6 H13 s13 t13 => ?_⟩
    rw [told_mb] at t13
    refine ⟨by show 2 ≤ sizeLine; decide, fun q6 hq6 => ?_⟩
    refine ⟨_, _, bad_dp (TT.same (Same.upd hq6) t13), bad_dp ⟨q6, rfl, upd_same⟩, sh_bad _, sh_bad _, ?_⟩
    rw [eqv_bad 1]
    exact kk _
end
end Toy

set_option Elab.async false
set_option linter.all false
set_option maxRecDepth 100000
set_option maxHeartbeats 4000000
namespace Toy
open PySem L2 TL
open SX (S)
/-- an error of the class at S is what «except S» names -/
theorem exm_self {K : PySem.W.Frag} {S : Addr} (h1 : PySem.W.subIn K (.ref S) (.type "BaseException") = some true) (h2 : PySem.W.isClsIn K S = true) (h3 : PySem.W.typeIn K (.ref S) = some (.type "type")) (h4 : PySem.W.subIn K (.ref S) (.ref S) = some true) :
    PySem.W.exmOne K (.ref S) (.ref S) = some true := by
  have e1 : (PySem.W.subIn K (.ref S) (.type "BaseException") == some true) = true := by rw [h1] <;> rfl
  have e2 : ((PySem.W.clsIn K S).isSome && PySem.W.typeIn K (.ref S) == some (.type "type")) = true := by
    have h2' : (PySem.W.clsIn K S).isSome = true := h2
    rw [h2', h3] <;> rfl
  show (if (PySem.W.subIn K (.ref S) (.type "BaseException") == some true) = true then (if ((PySem.W.clsIn K S).isSome && PySem.W.typeIn K (.ref S) == some (.type "type")) = true then PySem.W.subIn K (.ref S) (.ref S) else none) else none) = some true
  rw [if_pos e1, if_pos e2]
  exact h4
theorem along_of {K : PySem.W.Frag} {CF NF : Addr} {nmF qF : Str} {bsF bmF : List Value} {snF : List Str} {subF : List Value} {abF : Bool} {colF : Option Bool} {ddF : Option Addr} {m0F m1F m2F m3F m5F : Option Value} {n : Str} {r : Option Value}
    (xF : K.lookup CF = some (excClassObj nmF qF CF NF bsF bmF true snF subF abF colF ddF m0F m1F m2F m3F m5F "ValueError.__new__")) (alF : PySem.W.findIn K (.ref CF) n = some r) : PySem.W.alongIn K n (.ref CF :: bmF) = some r := by
  simp only [PySem.W.findIn, xF, excClassObj] at alF
  exact alF
section
variable {P : Program} {w : World} {K : PySem.W.Frag} {mg : Str → Option Value} {base : Heap} {CB fB cB dB CR : Addr} {f g : Addr} {fd gd : FuncData} {ps : List Str} {CX : CXT}
theorem fnok_no {k : Nat} {sp : Sp} (no : ∀ vs H Q E, ¬ sp vs H Q E) : FnOk P w K mg base CX k f fd ps sp :=
  ⟨fun vs H Q E h => absurd h (no vs H Q E), fun A outer s H args us vs Q E _ _ _ _ h => absurd h (no vs H Q E)⟩
theorem cal_mono {j k : Nat} {x : Str} {sp : Sp} (c : CalX P w K mg base CX j x sp) (h : j ≤ k) : CalX P w K mg base CX k x sp := by
  obtain ⟨f, fd, ps, F, r⟩ := c.ex
  exact ⟨f, fd, ps, F.mono h, r⟩
theorem met_mono {j k : Nat} {C : Addr} {m : Str} {sp : Sp} (c : MetX P w K mg base CX j C m sp) (h : j ≤ k) : MetX P w K mg base CX k C m sp := by
  obtain ⟨f, fd, ps, F, r⟩ := c.ex
  exact ⟨f, fd, ps, F.mono h, r⟩
theorem all_write (T : Txt P K mg CB fB cB dB CR) (F : Fun K "write_paper" "write_paper" s_write_paper f fd) (m : mg "write_paper" = some (.ref f)) (k : PySem.W.keepIn K (.ref f) = true) (b : Binds K fd ["paper"] []) : ∀ n : Nat, CalX P w K mg base CX0 n "write_paper" (spW n)
  | 0 => ⟨f, fd, _, fnok_no fun _ _ _ _ h => h, m, k, b⟩
  | n + 1 => ⟨f, fd, _, ok_write F T (all_write T F m k b n), m, k, b⟩
theorem all_written (T : Txt P K mg CB fB cB dB CR) (F : Fun K "_law_written_paper" "_law_written_paper" s_l_written_paper f fd) (m : mg "_law_written_paper" = some (.ref f)) (k : PySem.W.keepIn K (.ref f) = true) (b : Binds K fd ["paper"] []) : ∀ n : Nat, CalX P w K mg base CX0 n "_law_written_paper" (spW n)
  | 0 => ⟨f, fd, _, fnok_no fun _ _ _ _ h => h, m, k, b⟩
  | n + 1 => ⟨f, fd, _, ok_written F T (all_written T F m k b n), m, k, b⟩
theorem all_same (T : Txt P K mg CB fB cB dB CR) (F : Fun K "_law_same" "_law_same" s_l_same f fd) (m : mg "_law_same" = some (.ref f)) (k : PySem.W.keepIn K (.ref f) = true) (b : Binds K fd ["one", "other"] []) (I : CalX P w K mg base CX0 1 "_law_is_int" spIsInt) : ∀ n : Nat, CalX P w K mg base CX0 (n + 1) "_law_same" (spSame n)
  | 0 => ⟨f, fd, _, fnok_no fun _ _ _ _ h => h, m, k, b⟩
  | n + 1 => ⟨f, fd, _, ok_same F T I (all_same T F m k b I n), m, k, b⟩
theorem all_pap (T : Txt P K mg CB fB cB dB CR) (F : Fun K "_law_paper" "_law_paper" s_l_paper f fd) (m : mg "_law_paper" = some (.ref f)) (k : PySem.W.keepIn K (.ref f) = true) (b : Binds K fd ["d", "depth"] []) (D : CalX P w K mg base CX0 1 "_law_draw" spDraw) (I : CalX P w K mg base CX0 2 "_law_pick" spPick) :
    ∀ n : Nat, CalX P w K mg base CX0 (n + 2) "_law_paper" (spPap n)
  | 0 => ⟨f, fd, _, fnok_no fun _ _ _ _ h => h, m, k, b⟩
  | n + 1 => ⟨f, fd, _, ok_paper F T D I (all_pap T F m k b D I n), m, k, b⟩
theorem all_lread (T : Txt P K mg CB fB cB dB CR) (F : Fun K "_law_read_at" "_law_read_at" s_l_read_at f fd) (m : mg "_law_read_at" = some (.ref f)) (k : PySem.W.keepIn K (.ref f) = true) (b : Binds K fd ["text", "at", "depth"] []) (I : CalX P w K mg base CX0 1 "_law_read_number" spLNum) :
    ∀ n : Nat, n ≤ 60 → CalX P w K mg base CX0 (n + 2) "_law_read_at" (spLRead n)
  | 0, _ => ⟨f, fd, _, ok_l_read (Nat.le_refl 1) (Nat.zero_le _) F T I (fun _ _ _ _ => False) (fun k' h => nomatch h) ⟨f, fd, ["text", "at", "depth"], fnok_no fun _ _ _ _ h => h, m, k, b⟩, m, k, b⟩
  | n + 1, h => ⟨f, fd, _, ok_l_read (by omega) h F T I (spLRead n) (fun k' h => by cases h; rfl) (all_lread T F m k b I n (Nat.le_of_succ_le h)), m, k, b⟩
theorem all_read (T : Txt P K mg CB fB cB dB CR) (FP : Fun K "read_parts" "PaperReader.read_parts" s_r_read_parts g gd) (mP : Meth K CR "read_parts" g) (bP : Binds K gd ["self", "depth"] []) (F : Fun K "read_paper" "PaperReader.read_paper" s_r_read_paper f fd) (m : Meth K CR "read_paper" f) (b : Binds K fd ["self", "depth"] [])
    (M_peek : MetX P w K mg base CX0 1 CR "peek" (spPeek CR)) (M_skip : MetX P w K mg base (L2.CX P w) 2 CR "skip" (spSkip CR CB)) (M_read_string : MetX P w K mg base (L2.CX P w) 3 CR "read_string" (spStr CR CB)) (M_read_number : MetX P w K mg base (L2.CX P w) 3 CR "read_number" (spNum CR CB)) :
    ∀ n : Nat, n ≤ 60 → MetX P w K mg base (L2.CX P w) (2 * n + 4) CR "read_paper" (spRead CR CB n)
  | 0, _ => ⟨f, fd, _, ok_r_read (n := 3) (Nat.le_refl 3) F T M_peek M_skip M_read_string M_read_number
      ⟨g, gd, _, ok_r_parts (n := 2) (Nat.le_refl 2) FP T M_peek M_skip (Nat.zero_le _) (fun _ _ _ _ => False) (fun k' h => nomatch h) ⟨f, fd, ["self", "depth"], fnok_no fun _ _ _ _ h => h, T.cl, m, b⟩, T.cl, mP, bP⟩, T.cl, m, b⟩
  | n + 1, h => ⟨f, fd, _, ok_r_read (n := 2 * n + 5) (by omega) F T M_peek M_skip M_read_string M_read_number
      ⟨g, gd, _, ok_r_parts (n := 2 * n + 4) (by omega) FP T M_peek M_skip h (spRead CR CB n) (fun k' h => by cases h; rfl) (all_read T FP mP bP F m b M_peek M_skip M_read_string M_read_number n (Nat.le_of_succ_le h)), T.cl, mP, bP⟩, T.cl, m, b⟩
end
theorem all_mk {P : Program} {w : World} {K : PySem.W.Frag} {h : Heap} {mg : Str → Option Value} {fa : Addr} (X : K.In h) (G : h.Ns mainGlobals mg) (hfa : mg "law" = some (.ref fa))
    {CF NF : Addr} {nmF qF : Str} {bsF bmF : List Value} {snF : List Str} {subF : List Value} {abF : Bool} {colF : Option Bool} {ddF : Option Addr} {m0F m1F m2F m3F m5F : Option Value} {CR : Addr} {CB fB cB dB NCB : Addr} {nmCB qCB : Str} {bsCB : List Value} {snCB : List Str} {subCB : List Value} {abCB : Bool} {colCB : Option Bool} {ddCB : Option Addr} {m0CB m1CB m2CB m3CB m5CB : Option Value} {ocCB kVCB docCB pmCB ctCB cclCB : Value} {odCB anCB cldCB cddCB : Option Addr} {oslCB cslCB ccsCB : Array (Option Value)} {olCB : Value} {vsCB : Array Value} {fileCB : Str} {tfCB : Tok} {f1 : Addr} {oc1 kV1 dc1 pm1 cd1 ct1 : Value} {od1 an1 : Option Addr} {sl1 : Array (Option Value)} {f2 : Addr} {oc2 kV2 dc2 pm2 cd2 ct2 : Value} {od2 an2 : Option Addr} {sl2 : Array (Option Value)} {f3 : Addr} {oc3 kV3 dc3 pm3 cd3 ct3 : Value} {od3 an3 : Option Addr} {sl3 : Array (Option Value)} {f4 : Addr} {oc4 kV4 dc4 pm4 cd4 ct4 : Value} {od4 an4 : Option Addr} {sl4 : Array (Option Value)} {f5 : Addr} {oc5 kV5 dc5 pm5 cd5 ct5 : Value} {od5 an5 : Option Addr} {sl5 : Array (Option Value)} {f6 : Addr} {oc6 kV6 dc6 pm6 cd6 ct6 : Value} {od6 an6 : Option Addr} {sl6 : Array (Option Value)} {f7 : Addr} {oc7 kV7 dc7 pm7 cd7 ct7 : Value} {od7 an7 : Option Addr} {sl7 : Array (Option Value)} {f8 : Addr} {oc8 kV8 dc8 pm8 cd8 ct8 : Value} {od8 an8 : Option Addr} {sl8 : Array (Option Value)} {f9 : Addr} {oc9 kV9 dc9 pm9 cd9 ct9 : Value} {od9 an9 : Option Addr} {sl9 : Array (Option Value)} {fA : Addr} {ocA kVA dcA pmA cdA ctA : Value} {odA anA : Option Addr} {slA : Array (Option Value)} {fQ : Addr} {ocQ kVQ dcQ pmQ cdQ ctQ : Value} {odQ anQ : Option Addr} {slQ : Array (Option Value)} {fD : Addr} {ocD kVD dcD pmD cdD ctD : Value} {odD anD : Option Addr} {slD : Array (Option Value)} {fE : Addr} {ocE kVE dcE pmE cdE ctE : Value} {odE anE : Option Addr} {slE : Array (Option Value)} {fV : Addr} {ocV kVV dcV pmV cdV ctV : Value} {odV anV : Option Addr} {slV : Array (Option Value)} {fG : Addr} {ocG kVG dcG pmG cdG ctG : Value} {odG anG : Option Addr} {slG : Array (Option Value)} {fH : Addr} {ocH kVH dcH pmH cdH ctH : Value} {odH anH : Option Addr} {slH : Array (Option Value)} {fI : Addr} {ocI kVI dcI pmI cdI ctI : Value} {odI anI : Option Addr} {slI : Array (Option Value)} {fJ : Addr} {ocJ kVJ dcJ pmJ cdJ ctJ : Value} {odJ anJ : Option Addr} {slJ : Array (Option Value)} {fL : Addr} {ocL kVL dcL pmL cdL ctL : Value} {odL anL : Option Addr} {slL : Array (Option Value)} {fM : Addr} {ocM kVM dcM pmM cdM ctM : Value} {odM anM : Option Addr} {slM : Array (Option Value)} {fO : Addr} {ocO kVO dcO pmO cdO ctO : Value} {odO anO : Option Addr} {slO : Array (Option Value)} {fZ : Addr} {ocZ kVZ dcZ pmZ cdZ ctZ : Value} {odZ anZ : Option Addr} {slZ : Array (Option Value)} {tMOST_DEPTH : Tok} {tMOST_DIGITS : Tok}
    (aF : PySem.W.nsIn K mainGlobals "FormatError" = some (some (.ref CF)))
    (xF : K.lookup CF = some (excClassObj nmF qF CF NF bsF bmF true snF subF abF colF ddF m0F m1F m2F m3F m5F "ValueError.__new__"))
    (alF : PySem.W.findIn K (.ref CF) "__init__" = some (some (.builtin "ValueError.__init__")))
    (aCR : PySem.W.nsIn K mainGlobals "PaperReader" = some (some (.ref CR)))
    (pgCR : PySem.W.plainGet K CR Str.empty = true)
    (hdCR : PySem.W.hasDictIn K CR = true)
    (poCR : PySem.W.plainOver K CR = true)
    (saCR : PySem.W.findIn K (.ref CR) "__setattr__" = some (some (.builtin "object.__setattr__")))
    (mkCR : PySem.W.makesIn K CR = true)
    (kcCR : PySem.W.keepIn K (.ref CR) = true)
    (nCR_text : PySem.W.findIn K (.ref CR) "text" = some none)
    (nCR_place : PySem.W.findIn K (.ref CR) "place" = some none)
    (aCB : PySem.W.nsIn K mainGlobals "BadPaper" = some (some (.ref CB)))
    (xCB : K.lookup CB = some (excClassObj nmCB qCB CB NCB bsCB (.ref CF :: bmF) true snCB subCB abCB colCB ddCB m0CB m1CB m2CB m3CB m5CB "ValueError.__new__"))
    (bmCB : PySem.HandSPX.refsVE (.ref CF :: bmF) = true)
    (saCB : PySem.W.findIn K (.ref CB) "__setattr__" = some (some (.builtin "object.__setattr__")))
    (gaCB : PySem.W.findIn K (.ref CB) "__getattribute__" = some (some (.builtin "BaseException.__getattribute__")))
    (ggCB : PySem.W.findIn K (.ref CB) "__getattr__" = some none)
    (noCB : PySem.W.findIn K (.ref CB) "at" = some none)
    (inCB : PySem.W.findIn K (.ref CB) "__init__" = some (some (.ref fB)))
    (tiCB : PySem.W.typeIn K (.ref fB) = some (.type "function"))
    (kCCB : PySem.W.keepIn K (.ref CB) = true)
    (eCCB : PySem.W.subIn K (.ref CB) (.type "BaseException") = some true)
    (vCCB : PySem.W.subIn K (.ref CB) (.type "ValueError") = some true)
    (mCCB : PySem.W.mroIn K CB (.ref CB) = some true)
    (tCCB : PySem.W.typeIn K (.ref CB) = some (.type "type"))
    (hCCB : PySem.W.hasDictIn K CB = true)
    (iCCB : PySem.W.isClsIn K CB = true)
    (sCCB : PySem.W.subIn K (.ref CB) (.ref CB) = some true)
    (fnCB : K.lookup fB = some ⟨ocCB, odCB, .func (PySem.W.ksFn "__init__" "BadPaper.__init__" PySem.SupX_at.iA PySem.SupX_at.iB PySem.SupX_at.iS .none kVCB docCB pmCB anCB (.ref dB) ctCB cB), oslCB⟩)
    (cdCB : PySem.W.codeIn K (.ref dB) "BadPaper.__init__" = true)
    (ceCB : K.lookup cB = some ⟨olCB, cldCB, .cell (some (.ref CB)), cslCB⟩)
    (coCB : K.lookup dB = some ⟨cclCB, cddCB, .fields vsCB, ccsCB⟩)
    (v2CB : vsCB[2]? = some (.str fileCB tfCB))
    (fiCB : ((P.main.file : Str) == fileCB) = true)
    (opq : PySem.W.nsIn K cStatics "thirdparty.any" = some none)
    (z_super : PySem.W.nsIn K mainGlobals "super" = some none)
    (topS : (P.main.scope.names.lookup ("super" : Str)).isSome = false)
    (a1 : PySem.W.nsIn K mainGlobals "write_paper" = some (some (.ref f1)))
    (l1 : K.lookup f1 = some ⟨oc1, od1, .func (PySem.W.fnOf "write_paper" "write_paper" (defArgs s_write_paper) (defBody s_write_paper) (defScope s_write_paper) .none kV1 dc1 pm1 an1 cd1 ct1), sl1⟩)
    (c1 : PySem.W.codeIn K cd1 "write_paper" = true)
    (k1 : PySem.W.keepIn K (.ref f1) = true)
    (a2 : PySem.W.findIn K (.ref CR) "__init__" = some (some (.ref f2)))
    (i2 : PySem.W.isFn K (.ref f2) = true)
    (l2 : K.lookup f2 = some ⟨oc2, od2, .func (PySem.W.fnOf "__init__" "PaperReader.__init__" (defArgs s_r_init) (defBody s_r_init) (defScope s_r_init) .none kV2 dc2 pm2 an2 cd2 ct2), sl2⟩)
    (c2 : PySem.W.codeIn K cd2 "PaperReader.__init__" = true)
    (k2 : PySem.W.keepIn K (.ref f2) = true)
    (a3 : PySem.W.findIn K (.ref CR) "peek" = some (some (.ref f3)))
    (i3 : PySem.W.isFn K (.ref f3) = true)
    (l3 : K.lookup f3 = some ⟨oc3, od3, .func (PySem.W.fnOf "peek" "PaperReader.peek" (defArgs s_r_peek) (defBody s_r_peek) (defScope s_r_peek) .none kV3 dc3 pm3 an3 cd3 ct3), sl3⟩)
    (c3 : PySem.W.codeIn K cd3 "PaperReader.peek" = true)
    (k3 : PySem.W.keepIn K (.ref f3) = true)
    (a4 : PySem.W.findIn K (.ref CR) "skip" = some (some (.ref f4)))
    (i4 : PySem.W.isFn K (.ref f4) = true)
    (l4 : K.lookup f4 = some ⟨oc4, od4, .func (PySem.W.fnOf "skip" "PaperReader.skip" (defArgs s_r_skip) (defBody s_r_skip) (defScope s_r_skip) .none kV4 dc4 pm4 an4 cd4 ct4), sl4⟩)
    (c4 : PySem.W.codeIn K cd4 "PaperReader.skip" = true)
    (k4 : PySem.W.keepIn K (.ref f4) = true)
    (a5 : PySem.W.findIn K (.ref CR) "read_string" = some (some (.ref f5)))
    (i5 : PySem.W.isFn K (.ref f5) = true)
    (l5 : K.lookup f5 = some ⟨oc5, od5, .func (PySem.W.fnOf "read_string" "PaperReader.read_string" (defArgs s_r_read_string) (defBody s_r_read_string) (defScope s_r_read_string) .none kV5 dc5 pm5 an5 cd5 ct5), sl5⟩)
    (c5 : PySem.W.codeIn K cd5 "PaperReader.read_string" = true)
    (k5 : PySem.W.keepIn K (.ref f5) = true)
    (a6 : PySem.W.findIn K (.ref CR) "read_number" = some (some (.ref f6)))
    (i6 : PySem.W.isFn K (.ref f6) = true)
    (l6 : K.lookup f6 = some ⟨oc6, od6, .func (PySem.W.fnOf "read_number" "PaperReader.read_number" (defArgs s_r_read_number) (defBody s_r_read_number) (defScope s_r_read_number) .none kV6 dc6 pm6 an6 cd6 ct6), sl6⟩)
    (c6 : PySem.W.codeIn K cd6 "PaperReader.read_number" = true)
    (k6 : PySem.W.keepIn K (.ref f6) = true)
    (a7 : PySem.W.findIn K (.ref CR) "read_parts" = some (some (.ref f7)))
    (i7 : PySem.W.isFn K (.ref f7) = true)
    (l7 : K.lookup f7 = some ⟨oc7, od7, .func (PySem.W.fnOf "read_parts" "PaperReader.read_parts" (defArgs s_r_read_parts) (defBody s_r_read_parts) (defScope s_r_read_parts) .none kV7 dc7 pm7 an7 cd7 ct7), sl7⟩)
    (c7 : PySem.W.codeIn K cd7 "PaperReader.read_parts" = true)
    (k7 : PySem.W.keepIn K (.ref f7) = true)
    (a8 : PySem.W.findIn K (.ref CR) "read_paper" = some (some (.ref f8)))
    (i8 : PySem.W.isFn K (.ref f8) = true)
    (l8 : K.lookup f8 = some ⟨oc8, od8, .func (PySem.W.fnOf "read_paper" "PaperReader.read_paper" (defArgs s_r_read_paper) (defBody s_r_read_paper) (defScope s_r_read_paper) .none kV8 dc8 pm8 an8 cd8 ct8), sl8⟩)
    (c8 : PySem.W.codeIn K cd8 "PaperReader.read_paper" = true)
    (k8 : PySem.W.keepIn K (.ref f8) = true)
    (a9 : PySem.W.nsIn K mainGlobals "read_paper" = some (some (.ref f9)))
    (l9 : K.lookup f9 = some ⟨oc9, od9, .func (PySem.W.fnOf "read_paper" "read_paper" (defArgs s_read_paper) (defBody s_read_paper) (defScope s_read_paper) .none kV9 dc9 pm9 an9 cd9 ct9), sl9⟩)
    (c9 : PySem.W.codeIn K cd9 "read_paper" = true)
    (k9 : PySem.W.keepIn K (.ref f9) = true)
    (aA : PySem.W.nsIn K mainGlobals "_law_begin" = some (some (.ref fA)))
    (lA : K.lookup fA = some ⟨ocA, odA, .func (PySem.W.fnOf "_law_begin" "_law_begin" (defArgs s_l_begin) (defBody s_l_begin) (defScope s_l_begin) .none kVA dcA pmA anA cdA ctA), slA⟩)
    (cA : PySem.W.codeIn K cdA "_law_begin" = true)
    (kA : PySem.W.keepIn K (.ref fA) = true)
    (aQ : PySem.W.nsIn K mainGlobals "_law_draw" = some (some (.ref fQ)))
    (lQ : K.lookup fQ = some ⟨ocQ, odQ, .func (PySem.W.fnOf "_law_draw" "_law_draw" (defArgs s_l_draw) (defBody s_l_draw) (defScope s_l_draw) .none kVQ dcQ pmQ anQ cdQ ctQ), slQ⟩)
    (cQ : PySem.W.codeIn K cdQ "_law_draw" = true)
    (kQ : PySem.W.keepIn K (.ref fQ) = true)
    (aD : PySem.W.nsIn K mainGlobals "_law_pick" = some (some (.ref fD)))
    (lD : K.lookup fD = some ⟨ocD, odD, .func (PySem.W.fnOf "_law_pick" "_law_pick" (defArgs s_l_pick) (defBody s_l_pick) (defScope s_l_pick) .none kVD dcD pmD anD cdD ctD), slD⟩)
    (cD : PySem.W.codeIn K cdD "_law_pick" = true)
    (kD : PySem.W.keepIn K (.ref fD) = true)
    (aE : PySem.W.nsIn K mainGlobals "_law_is_int" = some (some (.ref fE)))
    (lE : K.lookup fE = some ⟨ocE, odE, .func (PySem.W.fnOf "_law_is_int" "_law_is_int" (defArgs s_l_is_int) (defBody s_l_is_int) (defScope s_l_is_int) .none kVE dcE pmE anE cdE ctE), slE⟩)
    (cE : PySem.W.codeIn K cdE "_law_is_int" = true)
    (kE : PySem.W.keepIn K (.ref fE) = true)
    (aV : PySem.W.nsIn K mainGlobals "_law_same" = some (some (.ref fV)))
    (lV : K.lookup fV = some ⟨ocV, odV, .func (PySem.W.fnOf "_law_same" "_law_same" (defArgs s_l_same) (defBody s_l_same) (defScope s_l_same) .none kVV dcV pmV anV cdV ctV), slV⟩)
    (cV : PySem.W.codeIn K cdV "_law_same" = true)
    (kV : PySem.W.keepIn K (.ref fV) = true)
    (aG : PySem.W.nsIn K mainGlobals "_law_paper" = some (some (.ref fG)))
    (lG : K.lookup fG = some ⟨ocG, odG, .func (PySem.W.fnOf "_law_paper" "_law_paper" (defArgs s_l_paper) (defBody s_l_paper) (defScope s_l_paper) .none kVG dcG pmG anG cdG ctG), slG⟩)
    (cG : PySem.W.codeIn K cdG "_law_paper" = true)
    (kG : PySem.W.keepIn K (.ref fG) = true)
    (aH : PySem.W.nsIn K mainGlobals "_law_written_paper" = some (some (.ref fH)))
    (lH : K.lookup fH = some ⟨ocH, odH, .func (PySem.W.fnOf "_law_written_paper" "_law_written_paper" (defArgs s_l_written_paper) (defBody s_l_written_paper) (defScope s_l_written_paper) .none kVH dcH pmH anH cdH ctH), slH⟩)
    (cH : PySem.W.codeIn K cdH "_law_written_paper" = true)
    (kH : PySem.W.keepIn K (.ref fH) = true)
    (aI : PySem.W.nsIn K mainGlobals "_law_read_number" = some (some (.ref fI)))
    (lI : K.lookup fI = some ⟨ocI, odI, .func (PySem.W.fnOf "_law_read_number" "_law_read_number" (defArgs s_l_read_number) (defBody s_l_read_number) (defScope s_l_read_number) .none kVI dcI pmI anI cdI ctI), slI⟩)
    (cI : PySem.W.codeIn K cdI "_law_read_number" = true)
    (kI : PySem.W.keepIn K (.ref fI) = true)
    (aJ : PySem.W.nsIn K mainGlobals "_law_read_at" = some (some (.ref fJ)))
    (lJ : K.lookup fJ = some ⟨ocJ, odJ, .func (PySem.W.fnOf "_law_read_at" "_law_read_at" (defArgs s_l_read_at) (defBody s_l_read_at) (defScope s_l_read_at) .none kVJ dcJ pmJ anJ cdJ ctJ), slJ⟩)
    (cJ : PySem.W.codeIn K cdJ "_law_read_at" = true)
    (kJ : PySem.W.keepIn K (.ref fJ) = true)
    (aL : PySem.W.nsIn K mainGlobals "_law_due" = some (some (.ref fL)))
    (lL : K.lookup fL = some ⟨ocL, odL, .func (PySem.W.fnOf "_law_due" "_law_due" (defArgs s_l_due) (defBody s_l_due) (defScope s_l_due) .none kVL dcL pmL anL cdL ctL), slL⟩)
    (cL : PySem.W.codeIn K cdL "_law_due" = true)
    (kL : PySem.W.keepIn K (.ref fL) = true)
    (aM : PySem.W.nsIn K mainGlobals "_law_told" = some (some (.ref fM)))
    (lM : K.lookup fM = some ⟨ocM, odM, .func (PySem.W.fnOf "_law_told" "_law_told" (defArgs s_l_told) (defBody s_l_told) (defScope s_l_told) .none kVM dcM pmM anM cdM ctM), slM⟩)
    (cM : PySem.W.codeIn K cdM "_law_told" = true)
    (kM : PySem.W.keepIn K (.ref fM) = true)
    (aO : PySem.W.nsIn K mainGlobals "_law_deep" = some (some (.ref fO)))
    (lO : K.lookup fO = some ⟨ocO, odO, .func (PySem.W.fnOf "_law_deep" "_law_deep" (defArgs s_l_deep) (defBody s_l_deep) (defScope s_l_deep) .none kVO dcO pmO anO cdO ctO), slO⟩)
    (cO : PySem.W.codeIn K cdO "_law_deep" = true)
    (kO : PySem.W.keepIn K (.ref fO) = true)
    (aZ : PySem.W.nsIn K mainGlobals "law" = some (some (.ref fZ)))
    (lZ : K.lookup fZ = some ⟨ocZ, odZ, .func (PySem.W.fnOf "law" "law" (defArgs s_law) (defBody s_law) (defScope s_law) .none kVZ dcZ pmZ anZ cdZ ctZ), slZ⟩)
    (cZ : PySem.W.codeIn K cdZ "law" = true)
    (kZ : PySem.W.keepIn K (.ref fZ) = true)
    (z_len : PySem.W.nsIn K mainGlobals "len" = some none)
    (z_abs : PySem.W.nsIn K mainGlobals "abs" = some none)
    (z_ord : PySem.W.nsIn K mainGlobals "ord" = some none)
    (z_isinstance : PySem.W.nsIn K mainGlobals "isinstance" = some none)
    (z_int : PySem.W.nsIn K mainGlobals "int" = some none)
    (z_str : PySem.W.nsIn K mainGlobals "str" = some none)
    (z_bool : PySem.W.nsIn K mainGlobals "bool" = some none)
    (z_tuple : PySem.W.nsIn K mainGlobals "tuple" = some none)
    (z_list : PySem.W.nsIn K mainGlobals "list" = some none)
    (z_range : PySem.W.nsIn K mainGlobals "range" = some none)
    (g_MOST_DEPTH : PySem.W.nsIn K mainGlobals "MOST_DEPTH" = some (some (.int 60 tMOST_DEPTH)))
    (g_MOST_DIGITS : PySem.W.nsIn K mainGlobals "MOST_DIGITS" = some (some (.int 20 tMOST_DIGITS))) :
    ∃ fd : FuncData, (∀ (s : Shared) (v : Value), BindsTo s fd ⟨[v], []⟩ [("script", v)]) ∧ ∀ base : Heap, K.In base → base.Ns mainGlobals mg → FnOk P w K mg base CX0 131 fa fd ["script"] (spLaw K) := by
  have e := hfa.symm.trans (PySem.W.mg_of X G aZ)
  cases e
  have x_BadPaper : PySem.SupX_at.SupTxt P K mg CB fB cB dB :=
    { cls := ⟨nmCB, qCB, NCB, bsCB, _, snCB, subCB, abCB, colCB, ddCB, m0CB, m1CB, m2CB, m3CB, m5CB, xCB, bmCB, along_of xF alF⟩, sa := saCB, ga := gaCB, gg := ggCB, noN := noCB, iC := inCB, tC := tiCB, kC := kCCB, exC := eCCB, veC := vCCB, ccC := mCCB, tyC := tCCB, hdC := hCCB,
      te := exm_self eCCB iCCB tCCB sCCB, opq := opq, sup := PySem.W.mg_none_of X G z_super, top := topS, cell := ⟨_, _, _, ceCB⟩, code := ⟨_, _, _, _, _, _, coCB, v2CB, fiCB⟩, fn := ⟨_, _, _, _, _, _, _, _, _, fnCB, cdCB⟩ }
  have F1 := fun_mk (st := s_write_paper) l1 c1 k1
  have b1 := F1.binds (ps := ["paper"]) fun _ _ _ _ _ _ us hl => match us, hl with | [_], _ => rfl
  have g1 := PySem.W.mg_of X G a1
  have F2 := fun_mk (st := s_r_init) l2 c2 k2
  have b2 := F2.binds (ps := ["self", "text"]) fun _ _ _ _ _ _ us hl => match us, hl with | [_, _], _ => rfl
  have M2 : Meth K CR "__init__" f2 := ⟨a2, i2, k2⟩
  have F3 := fun_mk (st := s_r_peek) l3 c3 k3
  have b3 := F3.binds (ps := ["self"]) fun _ _ _ _ _ _ us hl => match us, hl with | [_], _ => rfl
  have M3 : Meth K CR "peek" f3 := ⟨a3, i3, k3⟩
  have F4 := fun_mk (st := s_r_skip) l4 c4 k4
  have b4 := F4.binds (ps := ["self", "sign"]) fun _ _ _ _ _ _ us hl => match us, hl with | [_, _], _ => rfl
  have M4 : Meth K CR "skip" f4 := ⟨a4, i4, k4⟩
  have F5 := fun_mk (st := s_r_read_string) l5 c5 k5
  have b5 := F5.binds (ps := ["self"]) fun _ _ _ _ _ _ us hl => match us, hl with | [_], _ => rfl
  have M5 : Meth K CR "read_string" f5 := ⟨a5, i5, k5⟩
  have F6 := fun_mk (st := s_r_read_number) l6 c6 k6
  have b6 := F6.binds (ps := ["self"]) fun _ _ _ _ _ _ us hl => match us, hl with | [_], _ => rfl
  have M6 : Meth K CR "read_number" f6 := ⟨a6, i6, k6⟩
  have F7 := fun_mk (st := s_r_read_parts) l7 c7 k7
  have b7 := F7.binds (ps := ["self", "depth"]) fun _ _ _ _ _ _ us hl => match us, hl with | [_, _], _ => rfl
  have M7 : Meth K CR "read_parts" f7 := ⟨a7, i7, k7⟩
  have F8 := fun_mk (st := s_r_read_paper) l8 c8 k8
  have b8 := F8.binds (ps := ["self", "depth"]) fun _ _ _ _ _ _ us hl => match us, hl with | [_, _], _ => rfl
  have M8 : Meth K CR "read_paper" f8 := ⟨a8, i8, k8⟩
  have F9 := fun_mk (st := s_read_paper) l9 c9 k9
  have b9 := F9.binds (ps := ["text"]) fun _ _ _ _ _ _ us hl => match us, hl with | [_], _ => rfl
  have g9 := PySem.W.mg_of X G a9
  have FA := fun_mk (st := s_l_begin) lA cA kA
  have bA := FA.binds (ps := ["script"]) fun _ _ _ _ _ _ us hl => match us, hl with | [_], _ => rfl
  have gA := PySem.W.mg_of X G aA
  have FQ := fun_mk (st := s_l_draw) lQ cQ kQ
  have bQ := FQ.binds (ps := ["d", "many"]) fun _ _ _ _ _ _ us hl => match us, hl with | [_, _], _ => rfl
  have gQ := PySem.W.mg_of X G aQ
  have FD := fun_mk (st := s_l_pick) lD cD kD
  have bD := FD.binds (ps := ["d", "row"]) fun _ _ _ _ _ _ us hl => match us, hl with | [_, _], _ => rfl
  have gD := PySem.W.mg_of X G aD
  have FE := fun_mk (st := s_l_is_int) lE cE kE
  have bE := FE.binds (ps := ["thing"]) fun _ _ _ _ _ _ us hl => match us, hl with | [_], _ => rfl
  have gE := PySem.W.mg_of X G aE
  have FV := fun_mk (st := s_l_same) lV cV kV
  have bV := FV.binds (ps := ["one", "other"]) fun _ _ _ _ _ _ us hl => match us, hl with | [_, _], _ => rfl
  have gV := PySem.W.mg_of X G aV
  have FG := fun_mk (st := s_l_paper) lG cG kG
  have bG := FG.binds (ps := ["d", "depth"]) fun _ _ _ _ _ _ us hl => match us, hl with | [_, _], _ => rfl
  have gG := PySem.W.mg_of X G aG
  have FH := fun_mk (st := s_l_written_paper) lH cH kH
  have bH := FH.binds (ps := ["paper"]) fun _ _ _ _ _ _ us hl => match us, hl with | [_], _ => rfl
  have gH := PySem.W.mg_of X G aH
  have FI := fun_mk (st := s_l_read_number) lI cI kI
  have bI := FI.binds (ps := ["text", "at"]) fun _ _ _ _ _ _ us hl => match us, hl with | [_, _], _ => rfl
  have gI := PySem.W.mg_of X G aI
  have FJ := fun_mk (st := s_l_read_at) lJ cJ kJ
  have bJ := FJ.binds (ps := ["text", "at", "depth"]) fun _ _ _ _ _ _ us hl => match us, hl with | [_, _, _], _ => rfl
  have gJ := PySem.W.mg_of X G aJ
  have FL := fun_mk (st := s_l_due) lL cL kL
  have bL := FL.binds (ps := ["text"]) fun _ _ _ _ _ _ us hl => match us, hl with | [_], _ => rfl
  have gL := PySem.W.mg_of X G aL
  have FM := fun_mk (st := s_l_told) lM cM kM
  have bM := FM.binds (ps := ["text"]) fun _ _ _ _ _ _ us hl => match us, hl with | [_], _ => rfl
  have gM := PySem.W.mg_of X G aM
  have FO := fun_mk (st := s_l_deep) lO cO kO
  have bO := FO.binds (ps := ["many"]) fun _ _ _ _ _ _ us hl => match us, hl with | [_], _ => rfl
  have gO := PySem.W.mg_of X G aO
  have FZ := fun_mk (st := s_law) lZ cZ kZ
  have bZ := FZ.binds (ps := ["script"]) fun _ _ _ _ _ _ us hl => match us, hl with | [_], _ => rfl
  have gZ := PySem.W.mg_of X G aZ
  have T : Txt P K mg CB fB cB dB CR :=
    { z_len := PySem.W.mg_none_of X G z_len, z_abs := PySem.W.mg_none_of X G z_abs, z_ord := PySem.W.mg_none_of X G z_ord, z_isinstance := PySem.W.mg_none_of X G z_isinstance, z_int := PySem.W.mg_none_of X G z_int, z_str := PySem.W.mg_none_of X G z_str, z_bool := PySem.W.mg_none_of X G z_bool, z_tuple := PySem.W.mg_none_of X G z_tuple, z_list := PySem.W.mg_none_of X G z_list, z_range := PySem.W.mg_none_of X G z_range, g_MOST_DEPTH := ⟨_, PySem.W.mg_of X G g_MOST_DEPTH⟩, g_MOST_DIGITS := ⟨_, PySem.W.mg_of X G g_MOST_DIGITS⟩, g_BadPaper := PySem.W.mg_of X G aCB, x_BadPaper := x_BadPaper, cl := ⟨pgCR, hdCR, poCR, saCR⟩, nT := nCR_text, nP := nCR_place }
  refine ⟨PySem.W.fnOf "law" "law" (defArgs s_law) (defBody s_law) (defScope s_law) .none kVZ dcZ pmZ anZ cdZ ctZ, fun s v => .of_eq rfl, fun base _ _ => ?_⟩
  have c_begin : CalX P w K mg base CX0 1 "_law_begin" (spBegin K) := ⟨_, _, _, ok_begin FA T, gA, kA, bA⟩
  have c_draw : CalX P w K mg base CX0 1 "_law_draw" spDraw := ⟨_, _, _, ok_draw FQ T, gQ, kQ, bQ⟩
  have c_pick : CalX P w K mg base CX0 2 "_law_pick" spPick := ⟨_, _, _, ok_pick FD T c_draw, gD, kD, bD⟩
  have c_isint : CalX P w K mg base CX0 1 "_law_is_int" spIsInt := ⟨_, _, _, ok_is_int FE T, gE, kE, bE⟩
  have c_same := all_same T FV gV kV bV c_isint 61
  have c_paper := all_pap T FG gG kG bG c_draw c_pick 6
  have c_written := all_written (w := w) (base := base) T FH gH kH bH 61
  have c_write := all_write (w := w) (base := base) T F1 g1 k1 b1 61
  have cl := T.cl
  have m_peek : MetX P w K mg base CX0 1 CR "peek" (spPeek CR) := ⟨_, _, _, ok_r_peek F3 T, cl, M3, b3⟩
  have m_skip : MetX P w K mg base (L2.CX P w) 2 CR "skip" (spSkip CR CB) := ⟨_, _, _, ok_r_skip F4 T m_peek, cl, M4, b4⟩
  have m_string : MetX P w K mg base (L2.CX P w) 3 CR "read_string" (spStr CR CB) := ⟨_, _, _, ok_r_string F5 T m_peek m_skip, cl, M5, b5⟩
  have m_number : MetX P w K mg base (L2.CX P w) 3 CR "read_number" (spNum CR CB) := ⟨_, _, _, ok_r_number F6 T m_peek, cl, M6, b6⟩
  have m_read := all_read T F7 M7 b7 F8 M8 b8 m_peek m_skip m_string m_number 60 (Nat.le_refl 60)
  have n_reader : MakX P w K mg base CX0 1 "PaperReader" CR (spInit CR) := ⟨_, _, _, ⟨mkCR, a2, i2, kcCR⟩, ok_r_init F2 T, PySem.W.mg_of X G aCR, b2⟩
  have c_read : CalX P w K mg base (L2.CX P w) 125 "read_paper" (spReadF CB) := ⟨_, _, _, ok_readF (n := 123) (by decide) F9 T n_reader m_read, g9, k9, b9⟩
  have c_num : CalX P w K mg base CX0 1 "_law_read_number" spLNum := ⟨_, _, _, ok_l_number FI T, gI, kI, bI⟩
  have c_lread := all_lread T FJ gJ kJ bJ c_num 60 (Nat.le_refl 60)
  have c_due : CalX P w K mg base CX0 63 "_law_due" spTold := ⟨_, _, _, ok_due FL T c_lread, gL, kL, bL⟩
  have c_told : CalX P w K mg base CX0 126 "_law_told" spTold := ⟨_, _, _, ok_told FM T c_read, gM, kM, bM⟩
  have c_deep : CalX P w K mg base CX0 1 "_law_deep" (fun vs H Q _ => vs = [.int 60] ∧ ∀ v H', Same H H' → PV H' v (deepP 59) → Q v H') := ⟨_, _, _, ok_deep FO T, gO, kO, bO⟩
  exact ok_law (n := 130) (Nat.le_refl 130) FZ T c_begin c_draw c_pick c_paper c_written c_write c_same (cal_mono c_read (by decide)) (cal_mono c_due (by decide)) (cal_mono c_told (by decide)) c_deep
theorem walk {l : PySem.W.OpenLaw} {q : Program} {loose : List Str} {XP : (Str → Option Value) → Heap → Prop} {YP : World → Heap → Prop} {d : DefRec} {K : Params → PySem.W.Frag} (hn : l.most = some 63) (hdf : d.params.defaults = [])
    (hY : ∀ (w : World) (h : Heap), YP w h → (K w.params).In h)
    (F : ∀ (w : World) (mg : Str → Option Value) (fa : Addr) (h : Heap), (K w.params).In h → h.Ns mainGlobals mg → mg d.name = some (.ref fa) →
      ∃ fd : FuncData, (∀ (s : Shared) (u : Value), BindsTo s fd ⟨[u], []⟩ [("script", u)]) ∧ ∀ base : Heap, (K w.params).In base → base.Ns mainGlobals mg → FnOk l.prog w (K w.params) mg base CX0 131 fa fd ["script"] (spLaw (K w.params))) :
    PySem.W.WalkO q loose XP YP l.row.toRowW d [] (fun f vs => PySem.call f vs) :=
  L2.walk_of (n := 63) (k := 131) (x := "script") (CX := fun _ => CX0) (sp := fun w => spLaw (K w.params)) hn (by decide) hdf ⟨rfl, by decide, by decide⟩ hY F (fun _ _ a ns hl _ hS => ⟨a, ns, rfl, hS, hl, fun _ => rfl⟩) fun _ _ _ _ _ z => z

end Toy

open PySem PySem.W PyProof.Rows in
set_option maxRecDepth 100000 in
set_option maxHeartbeats 0 in
theorem PySem.Challenge.cw_formatory_k86_papers_there_and_back_holds : PySem.Challenge.rw_formatory_k86_papers_there_and_back.Holds := by
  w_on; o_law; k_head; (case hw => w_witness2)
  k_fill
  refine Toy.walk (l := PySem.Challenge.rw_formatory_k86_papers_there_and_back) rfl rfl (fun w h Y => PySem.W.kIn_of Y) ?F
  case F =>
    intro w mg fa h KX G hmg
    refine' Toy.all_mk KX G hmg ?aF ?xF ?alF ?aCR ?pgCR ?hdCR ?poCR ?saCR ?mkCR ?kcCR ?nCR_text ?nCR_place ?aCB ?xCB ?bmCB ?saCB ?gaCB ?ggCB ?noCB ?inCB ?tiCB ?kCCB ?eCCB ?vCCB ?mCCB ?tCCB ?hCCB ?iCCB ?sCCB ?fnCB ?cdCB ?ceCB ?coCB ?v2CB ?fiCB ?opq ?z_super ?topS ?a1 ?l1 ?c1 ?k1 ?a2 ?i2 ?l2 ?c2 ?k2 ?a3 ?i3 ?l3 ?c3 ?k3 ?a4 ?i4 ?l4 ?c4 ?k4 ?a5 ?i5 ?l5 ?c5 ?k5 ?a6 ?i6 ?l6 ?c6 ?k6 ?a7 ?i7 ?l7 ?c7 ?k7 ?a8 ?i8 ?l8 ?c8 ?k8 ?a9 ?l9 ?c9 ?k9 ?aA ?lA ?cA ?kA ?aQ ?lQ ?cQ ?kQ ?aD ?lD ?cD ?kD ?aE ?lE ?cE ?kE ?aV ?lV ?cV ?kV ?aG ?lG ?cG ?kG ?aH ?lH ?cH ?kH ?aI ?lI ?cI ?kI ?aJ ?lJ ?cJ ?kJ ?aL ?lL ?cL ?kL ?aM ?lM ?cM ?kM ?aO ?lO ?cO ?kO ?aZ ?lZ ?cZ ?kZ ?z_len ?z_abs ?z_ord ?z_isinstance ?z_int ?z_str ?z_bool ?z_tuple ?z_list ?z_range ?g_MOST_DEPTH ?g_MOST_DIGITS
    (case aF => k_is)
    (case xF => k_is)
    (case alF => k_is)
    (case aCR => k_is)
    (case pgCR => k_is)
    (case hdCR => k_is)
    (case poCR => k_is)
    (case saCR => k_is)
    (case mkCR => k_is)
    (case kcCR => k_is)
    (case nCR_text => k_is)
    (case nCR_place => k_is)
    (case aCB => k_is)
    (case xCB => k_is)
    (case bmCB => first | rfl | decide +kernel)
    (case saCB => k_is)
    (case gaCB => k_is)
    (case ggCB => k_is)
    (case noCB => k_is)
    (case inCB => k_is)
    (case tiCB => k_is)
    (case kCCB => k_is)
    (case eCCB => k_is)
    (case vCCB => k_is)
    (case mCCB => k_is)
    (case tCCB => k_is)
    (case hCCB => k_is)
    (case iCCB => k_is)
    (case sCCB => k_is)
    (case fnCB => k_is)
    (case cdCB => k_is)
    (case ceCB => k_is)
    (case coCB => k_is)
    (case v2CB => first | rfl | decide +kernel)
    (case fiCB => first | rfl | decide +kernel)
    (case opq => k_is)
    (case z_super => k_is)
    (case topS => first | rfl | decide +kernel)
    (case a1 => k_is)
    (case l1 => k_is)
    (case c1 => k_is)
    (case k1 => k_is)
    (case a2 => k_is)
    (case i2 => k_is)
    (case l2 => k_is)
    (case c2 => k_is)
    (case k2 => k_is)
    (case a3 => k_is)
    (case i3 => k_is)
    (case l3 => k_is)
    (case c3 => k_is)
    (case k3 => k_is)
    (case a4 => k_is)
    (case i4 => k_is)
    (case l4 => k_is)
    (case c4 => k_is)
    (case k4 => k_is)
    (case a5 => k_is)
    (case i5 => k_is)
    (case l5 => k_is)
    (case c5 => k_is)
    (case k5 => k_is)
    (case a6 => k_is)
    (case i6 => k_is)
    (case l6 => k_is)
    (case c6 => k_is)
    (case k6 => k_is)
    (case a7 => k_is)
    (case i7 => k_is)
    (case l7 => k_is)
    (case c7 => k_is)
    (case k7 => k_is)
    (case a8 => k_is)
    (case i8 => k_is)
    (case l8 => k_is)
    (case c8 => k_is)
    (case k8 => k_is)
    (case a9 => k_is)
    (case l9 => k_is)
    (case c9 => k_is)
    (case k9 => k_is)
    (case aA => k_is)
    (case lA => k_is)
    (case cA => k_is)
    (case kA => k_is)
    (case aQ => k_is)
    (case lQ => k_is)
    (case cQ => k_is)
    (case kQ => k_is)
    (case aD => k_is)
    (case lD => k_is)
    (case cD => k_is)
    (case kD => k_is)
    (case aE => k_is)
    (case lE => k_is)
    (case cE => k_is)
    (case kE => k_is)
    (case aV => k_is)
    (case lV => k_is)
    (case cV => k_is)
    (case kV => k_is)
    (case aG => k_is)
    (case lG => k_is)
    (case cG => k_is)
    (case kG => k_is)
    (case aH => k_is)
    (case lH => k_is)
    (case cH => k_is)
    (case kH => k_is)
    (case aI => k_is)
    (case lI => k_is)
    (case cI => k_is)
    (case kI => k_is)
    (case aJ => k_is)
    (case lJ => k_is)
    (case cJ => k_is)
    (case kJ => k_is)
    (case aL => k_is)
    (case lL => k_is)
    (case cL => k_is)
    (case kL => k_is)
    (case aM => k_is)
    (case lM => k_is)
    (case cM => k_is)
    (case kM => k_is)
    (case aO => k_is)
    (case lO => k_is)
    (case cO => k_is)
    (case kO => k_is)
    (case aZ => k_is)
    (case lZ => k_is)
    (case cZ => k_is)
    (case kZ => k_is)
    (case z_len => k_is)
    (case z_abs => k_is)
    (case z_ord => k_is)
    (case z_isinstance => k_is)
    (case z_int => k_is)
    (case z_str => k_is)
    (case z_bool => k_is)
    (case z_tuple => k_is)
    (case z_list => k_is)
    (case z_range => k_is)
    (case g_MOST_DEPTH => k_is)
    (case g_MOST_DIGITS => k_is)
