import PyProof.Rows.All
import Wide.All
import OpenK.AllK
import Wide.FinOn
import PyProof.EqAt
import PyProof.EqKinds
import PyProof.TupleCall
import PySem.Challenge.RW_formatory_k82_barring_judged
import KE.KFromBytes
import KE.KExcSuper
import HandS.ExcSuper
import HandS.ExcInit
import HandS.ForMost
import HandS.ForExc
import HandS.IsInst
import HandS.Codes
import HandS.Conv
import HandS.ExcField
import HandS.Wide
import KE.IntTextLaws
import HandS.SortOrd
import HandS.SortRule
import HandS.TupLe
import HandS.TupSets
import HandS.DictTup
import HandS.DictComp
import HandS.Deep
import HandS.Iter
import HandS.SetKeys
import HandS.More
import HandS.List
import KE.KSortTup
import KE.KDictCopyH
import KE.KDictOf
import KE.GoesEnum
import KE.GoesMore
import PyProof.Draws
import HandS.Walk
import PyProof.Rows.TupDisplay
import KE.DataEq
import HandS.TupAny
import HandS.TupLen
set_option Elab.async false
set_option linter.all false
set_option maxRecDepth 100000
set_option maxHeartbeats 4000000
/-! sorted of pairs (a whole number, a tuple of whole numbers) -/
namespace LW
def lexL : List Int → List Int → Bool
  | _, [] => false
  | [], _ :: _ => true
  | x :: xs, y :: ys => if x = y then lexL xs ys else decide (x < y)
theorem lexL_nil (l : List Int) : lexL l [] = false := by cases l <;> rfl
theorem lexL_asym : ∀ a b : List Int, lexL a b = true → lexL b a = false
  | a, [], h => by rw [lexL_nil] at h; cases h
  | [], y :: ys, _ => lexL_nil _
  | x :: xs, y :: ys, h => by
    unfold lexL at h ⊢
    by_cases e : x = y
    · subst e
      rw [if_pos rfl] at h ⊢
      exact lexL_asym _ _ h
    · rw [if_neg e] at h
      rw [if_neg (fun z => e z.symm)]
      have := of_decide_eq_true h
      exact decide_eq_false (by omega)
theorem lexL_tr : ∀ a b c : List Int, lexL b a = false → lexL c b = false → lexL c a = false
  | [], b, c, _, _ => lexL_nil _
  | x :: xs, b, [], h1, h2 => by
    cases b with
    | nil => exact absurd h1 (by unfold lexL; decide)
    | cons y ys => exact absurd h2 (by unfold lexL; decide)
  | x :: xs, [], z :: zs, h1, h2 => absurd h1 (by unfold lexL; decide)
  | x :: xs, y :: ys, z :: zs, h1, h2 => by
    unfold lexL at h1 h2 ⊢
    by_cases e1 : y = x
    · subst e1
      rw [if_pos rfl] at h1
      by_cases e2 : z = y
      · subst e2
        rw [if_pos rfl] at h2 ⊢
        exact lexL_tr _ _ _ h1 h2
      · rw [if_neg e2] at h2 ⊢
        exact h2
    · rw [if_neg e1] at h1
      have := of_decide_eq_false h1
      by_cases e2 : z = y
      · subst e2
        rw [if_neg e1]
        exact h1
      · rw [if_neg e2] at h2
        have := of_decide_eq_false h2
        have e3 : z ≠ x := by omega
        rw [if_neg e3]
        exact decide_eq_false (by omega)
theorem lexL_tri : ∀ a b : List Int, lexL a b = false → lexL b a = false → a = b
  | [], [], _, _ => rfl
  | [], y :: ys, h, _ => absurd h (by unfold lexL; decide)
  | x :: xs, [], _, h => absurd h (by unfold lexL; decide)
  | x :: xs, y :: ys, h1, h2 => by
    unfold lexL at h1 h2
    by_cases e : x = y
    · subst e
      rw [if_pos rfl] at h1 h2
      rw [lexL_tri _ _ h1 h2]
    · rw [if_neg e] at h1
      rw [if_neg (fun z => e z.symm)] at h2
      have := of_decide_eq_false h1
      have := of_decide_eq_false h2
      omega
/-- by the number, then by the tuple -/
def lexN (p q : Int × List Int) : Bool := if p.1 = q.1 then lexL p.2 q.2 else decide (p.1 < q.1)
theorem lexN_swo {α : Type} (k : α → Int × List Int) : SrtO.Swo fun u v => lexN (k u) (k v) := by
  refine ⟨fun x y h => ?_, fun x y z h1 h2 => ?_⟩
  · unfold lexN at h ⊢
    by_cases e : (k x).1 = (k y).1
    · rw [if_pos e] at h
      rw [if_pos e.symm]
      exact lexL_asym _ _ h
    · rw [if_neg e] at h
      rw [if_neg (fun z => e z.symm)]
      have := of_decide_eq_true h
      exact decide_eq_false (by omega)
  · unfold lexN at h1 h2 ⊢
    by_cases e1 : (k y).1 = (k x).1
    · rw [if_pos e1] at h1
      by_cases e2 : (k z).1 = (k y).1
      · rw [if_pos e2] at h2
        rw [if_pos (e2.trans e1)]
        exact lexL_tr _ _ _ h1 h2
      · rw [if_neg e2] at h2
        rw [if_neg (fun c => e2 (c.trans e1.symm)), ← e1]
        exact h2
    · rw [if_neg e1] at h1
      have := of_decide_eq_false h1
      by_cases e2 : (k z).1 = (k y).1
      · rw [if_pos e2] at h2
        have e3 : (k z).1 ≠ (k x).1 := by omega
        rw [if_neg e3]
        exact decide_eq_false (by omega)
      · rw [if_neg e2] at h2
        have := of_decide_eq_false h2
        have e3 : (k z).1 ≠ (k x).1 := by omega
        rw [if_neg e3]
        exact decide_eq_false (by omega)
theorem lexN_tri (p q : Int × List Int) (h1 : lexN p q = false) (h2 : lexN q p = false) : p = q := by
  unfold lexN at h1 h2
  by_cases e : p.1 = q.1
  · rw [if_pos e] at h1
    rw [if_pos e.symm] at h2
    exact Prod.ext e (lexL_tri _ _ h1 h2)
  · rw [if_neg e] at h1
    rw [if_neg (fun z => e z.symm)] at h2
    have := of_decide_eq_false h1
    have := of_decide_eq_false h2
    omega
theorem at_shift {e r : Nat → Bool} {z : Bool} : ∀ (n i : Nat), Ob.lexAt (fun j => e (j + 1)) (fun j => r (j + 1)) z i n = Ob.lexAt e r z (i + 1) n
  | 0, _ => rfl
  | n + 1, i => by rw [Ob.lexAt_succ, Ob.lexAt_succ, at_shift n (i + 1)]
theorem at_lex : ∀ ns ms : List Int, Ob.lexAt (fun j => decide (ns.getD j 0 = ms.getD j 0)) (fun j => decide (ns.getD j 0 < ms.getD j 0)) (decide (ns.length < ms.length)) 0 (min ns.length ms.length) = lexL ns ms
  | ns, [] => by
    rw [lexL_nil, List.length_nil, Nat.min_zero]
    exact decide_eq_false (Nat.not_lt_zero _)
  | [], m :: ms => by
    rw [List.length_nil, Nat.zero_min]
    exact decide_eq_true (Nat.succ_pos _)
  | n :: ns, m :: ms => by
    have ih := at_lex ns ms
    rw [List.length_cons, List.length_cons, Nat.succ_min_succ, Ob.lexAt_succ]
    have sh := at_shift (e := fun j => decide ((n :: ns).getD j 0 = (m :: ms).getD j 0)) (r := fun j => decide ((n :: ns).getD j 0 < (m :: ms).getD j 0)) (z := decide (ns.length + 1 < ms.length + 1)) (min ns.length ms.length) 0
    have z : decide (ns.length + 1 < ms.length + 1) = decide (ns.length < ms.length) := by
      by_cases c : ns.length < ms.length
      · rw [decide_eq_true c, decide_eq_true (Nat.succ_lt_succ c)]
      · rw [decide_eq_false c, decide_eq_false (fun q => c (Nat.lt_of_succ_lt_succ q))]
    have e1 : (fun j => decide ((n :: ns).getD (j + 1) 0 = (m :: ms).getD (j + 1) 0)) = fun j => decide (ns.getD j 0 = ms.getD j 0) := by funext j; rw [List.getD_cons_succ, List.getD_cons_succ]
    have e2 : (fun j => decide ((n :: ns).getD (j + 1) 0 < (m :: ms).getD (j + 1) 0)) = fun j => decide (ns.getD j 0 < ms.getD j 0) := by funext j; rw [List.getD_cons_succ, List.getD_cons_succ]
    rw [e1, e2, z, ih] at sh
    rw [z, ← sh, show lexL (n :: ns) (m :: ms) = if n = m then lexL ns ms else decide (n < m) by rw [lexL]]
    rw [List.getD_cons_zero, List.getD_cons_zero]
    by_cases c : n = m
    · rw [if_pos c, if_pos (decide_eq_true c)]
    · rw [if_neg c, if_neg (by rw [decide_eq_false c]; decide)]
end LW
namespace LW
open PySem PySem.Spec PyProof.Rows
section
variable {prog : Program} {w : World} {A : Around} {E : Value → Shared → Prop} {s : Shared}
/-- the tuple at b of these whole numbers -/
def Nums (h : Heap) (b : Addr) (ns : List Int) : Prop := ∃ its : Array Value, h.IsTuple b its ∧ IntsAre its.toList ns ∧ IsTupleKey (L2.mixKind prog w) h (ns.map Sum.inl) b
/-- v is the pair (x, the tuple of ns) -/
def PairLW (prog : Program) (w : World) (h : Heap) (v : Value) (k : Int × List Int) : Prop := ∃ a o t b n, v = .ref a ∧ h.get? a = some o ∧ o.cls = .type "tuple" ∧ o.data = .seq #[.int k.1 t, .ref b] n ∧ Nums (prog := prog) (w := w) h b k.2
theorem Nums.keeps {h h' : Heap} {b : Addr} {ns : List Int} (x : Nums (prog := prog) (w := w) h b ns) (k : ∀ b o, h.get? b = some o → o.cls = .type "tuple" → h'.get? b = some o) : Nums (prog := prog) (w := w) h' b ns := by
  obtain ⟨its, ⟨o, ho, hc, r⟩, hi, ⟨o3, it3, n3, ho3, hc3, r3⟩⟩ := x
  exact ⟨its, ⟨o, k _ _ ho hc, hc, r⟩, hi, ⟨o3, it3, n3, k _ _ ho3 hc3, hc3, r3⟩⟩
theorem PairLW.keeps {h h' : Heap} {v : Value} {k : Int × List Int} (x : PairLW prog w h v k) (kp : ∀ b o, h.get? b = some o → o.cls = .type "tuple" → h'.get? b = some o) : PairLW prog w h' v k := by
  obtain ⟨a, o, t, b, n, e, ho, hc, hd, hn⟩ := x
  exact ⟨a, o, t, b, n, e, kp _ _ ho hc, hc, hd, hn.keeps kp⟩
theorem lt_nums {b c : Addr} {ns ms : List Int} {Q : Value → Shared → Prop} (hb : Nums (prog := prog) (w := w) s.heap b ns) (hc : Nums (prog := prog) (w := w) s.heap c ms) (hu : A.units < cLine) (h : Q (.bool (lexL ns ms)) s) :
    wpAny (model prog w) A (compareOp .Lt (.ref b) (.ref c)) Q E s := by
  obtain ⟨its, p1, i1, _⟩ := hb
  obtain ⟨its2, p2, i2, _⟩ := hc
  have n1 : its.size = ns.length := by rw [← Array.length_toList]; exact i1.length
  have n2 : its2.size = ms.length := by rw [← Array.length_toList]; exact i2.length
  have v1 : ∀ j (h1 : j < its.size), ∃ t, its[j] = .int (ns.getD j 0) t := fun j h1 => PyProof.Rows.IntsAre.int_at i1 _ _ (by simp [h1])
  have v2 : ∀ j (h1 : j < its2.size), ∃ t, its2[j] = .int (ms.getD j 0) t := fun j h1 => PyProof.Rows.IntsAre.int_at i2 _ _ (by simp [h1])
  have R := Ob.RcOp.tuples_lt (A := A) (s := s) (e := fun j => decide (ns.getD j 0 = ms.getD j 0)) (r := fun j => decide (ns.getD j 0 < ms.getD j 0)) p1 p2 hu (fun j g1 g2 => by
    obtain ⟨t, e1⟩ := v1 j g1
    obtain ⟨t', e2⟩ := v2 j g2
    rw [e1, e2]
    have z : decide (ns.getD j 0 = ms.getD j 0) = (ns.getD j 0 == ms.getD j 0) := by
      by_cases c : ns.getD j 0 = ms.getD j 0
      · rw [decide_eq_true c, beq_iff_eq.mpr c]
      · rw [decide_eq_false c, beq_eq_false_iff_ne.mpr c]
    rw [z]
    exact SeqAt.EqAt.int_int _ _ _ _) (fun j g1 g2 _ => by
    obtain ⟨t, e1⟩ := v1 j g1
    obtain ⟨t', e2⟩ := v2 j g2
    rw [e1, e2]
    exact Ob.RcOp.lt_int _ _ _ _)
  rw [n1, n2, at_lex] at R
  exact R prog w E Q h
theorem lw_cmp {vs : List Value} {k : Value → Int × List Int} (hu : A.units < cLine) (hp : ∀ v ∈ vs, PairLW prog w s.heap v (k v)) : SrtO.Cmp prog w A s (tuples' true) (fun p => p.1 ∈ vs) (SrtO.lt2 fun u v => lexN (k u) (k v)) := by
  intro p q mp mq
  have c1 := hp _ mp
  have c2 := hp _ mq
  show wpAny (model prog w) A (keyLt' (tuples' true) p.1 q.1) (fun r s' => s' = s ∧ r = lexN (k p.1) (k q.1)) (fun _ _ => False) s
  generalize k p.1 = kp at c1 ⊢
  generalize k q.1 = kq at c2 ⊢
  obtain ⟨x, xs⟩ := kp
  obtain ⟨y, ys⟩ := kq
  obtain ⟨a, o, t, b, n, e, ho, hc, hd, hn⟩ := c1
  obtain ⟨a', o', t', b', n', e', ho', hc', hd', hn'⟩ := c2
  rw [e, e']
  refine PySem.W.kat_lt ho hd ho' hd' ?_
  show PySem.W.KatLex prog w A true (decide (2 < 2)) _ [(Value.int x t, Value.int y t'), (Value.ref b, Value.ref b')] 0 s
  refine PySem.W.kat_cons (SeqAt.EqAt.int_int x t y t' prog w _ _ ?_)
  refine PySem.W.kat_go (fun c => ?_) (fun c => ?_)
  · have exy : x = y := by simpa using c
    obtain ⟨its, _, _, key⟩ := id hn
    obtain ⟨its', _, _, key'⟩ := id hn'
    refine PySem.W.kat_yes (PySem.W.kat_cons (wpAny_eqBool_tuple hu key key' ?_))
    refine PySem.W.kat_go (fun d => ?_) (fun d => ?_)
    · have exs : xs = ys := by
        have z := of_decide_eq_true d
        exact (List.map_inj_right (fun u v g => by injection g)).mp z
      refine PySem.W.kat_yes (PySem.W.kat_nil ⟨rfl, ?_⟩)
      unfold lexN
      rw [if_pos exy, exs]
      cases g : lexL ys ys with
      | false => rfl
      | true => exact absurd (lexL_asym _ _ g) (by rw [g]; decide)
    · refine PySem.W.kat_no (PySem.W.kat_one _ _ (lt_nums hn hn' hu ?_))
      refine (show s = s ∧ lexL xs ys = lexN (x, xs) (y, ys) from ⟨rfl, ?_⟩)
      unfold lexN
      rw [if_pos exy]
  · have exy : ¬ x = y := by simpa using c
    refine PySem.W.kat_no (oneLt_int ⟨rfl, ?_⟩)
    unfold lexN
    rw [if_neg exy]
theorem lw_firsts {h : Heap} : ∀ {vs : List Value}, (∀ v ∈ vs, ∃ k, PairLW prog w h v k) → ∃ fs : List Value, PySem.W.KatTups h vs fs ∧ fs.length = vs.length ∧ ∀ f ∈ fs, ∃ x t, f = Value.int x t
  | [], _ => ⟨[], PySem.W.KatTups.nil, rfl, fun f m => absurd m (by simp)⟩
  | v :: vs, x => by
    obtain ⟨fs, g, gl, gi⟩ := lw_firsts fun u m => x u (List.mem_cons_of_mem _ m)
    obtain ⟨k, a, o, t, b, n, rfl, ho, hc, hd, _⟩ := x v List.mem_cons_self
    refine ⟨.int k.1 t :: fs, PySem.W.KatTups.cons ho hc hd rfl g, by rw [List.length_cons, List.length_cons, gl], fun f m => ?_⟩
    rcases List.mem_cons.mp m with rfl | m
    · exact ⟨_, _, rfl⟩
    · exact gi f m
theorem lw_sortable {a : Addr} {vs : List Value} {k : Value → Int × List Int} (hu : A.units < cLine) (h0 : 0 < vs.length) (hp : ∀ v ∈ vs, PairLW prog w s.heap v (k v)) (ha : ∀ o, s.heap.get? a = some o → o.cls ≠ .type "tuple") :
    SrtO.SortableO prog w A s a vs fun u v => lexN (k u) (k v) := by
  intro h' kp
  have hp' : ∀ v ∈ vs, PairLW prog w h' v (k v) := fun v m => (hp v m).keeps fun b o e c => kp b o (fun z => by subst z; exact ha o e c) e
  obtain ⟨fs, g1, g2, g3⟩ := lw_firsts fun v m => ⟨_, hp' v m⟩
  refine ⟨tuples' true, fun Q E hq => ?_, lw_cmp (s := { s with heap := h' }) hu hp'⟩
  refine PySem.W.kat_kind (T := .type "int") g1 (by omega) (fun f m => ?_) (by rfl) ?_
  · obtain ⟨x, t, rfl⟩ := g3 f m
    exact PySem.W.Looks.now
  · have z : (Value.type "int" != Value.type "tuple") = true := by first | decide +kernel | rfl | decide
    rw [z]
    exact hq
end
end LW
namespace L2
open PySem PySem.Spec PyProof.Rows
/-- sorted(xs), xs a list of pairs (a number, a tuple of numbers); k says which -/
def rSortLW (K : PySem.W.Frag) : List V → Hp → VK → Prop := fun vs H Q => ∃ (a : Addr) (xs : List V) (k : V → Int × List Int), vs = [V.ref a] ∧ SqL K H a xs ∧
  (∀ x ∈ xs, ∃ t b, x = V.ref t ∧ H t = some (.tup [.int (k x).1, .ref b]) ∧ H b = some (.tup ((k x).2.map V.int))) ∧
  ∀ ys p, SrtO.Srtd (fun u v => LW.lexN (k u) (k v)) ys → SrtO.Stb (fun u v => LW.lexN (k u) (k v)) ys xs → H p = none → Q (.ref p) (upd H p (.lst ys))
theorem sk_inl : ∀ ns : List Int, (ns.map Sum.inl : List Key).map kV = ns.map V.int
  | [] => rfl
  | n :: ns => by rw [List.map_cons, List.map_cons, List.map_cons, sk_inl ns]; rfl
section
variable {X : Cx}
theorem cr_sortLW (hu : X.A.units + 4 < cLine) : CallR X (.builtin "sorted") (rSortLW X.K) := by
  intro pins s σ H vs us Q I r h
  obtain ⟨a, xs, k, rfl, hs, hx, q⟩ := h
  obtain ⟨its, rv, hl, hz⟩ := I.list hs
  obtain ⟨u, rfl, ru⟩ := vals1 r
  obtain rfl : u = Value.ref a := ru
  obtain ⟨g1, g2⟩ := refs_back rv fun x m => by
    obtain ⟨t, b, e, _⟩ := hx x m
    exact ⟨t, e⟩
  have hp : ∀ v ∈ its, LW.PairLW X.prog X.w s.heap v (k (backV v)) := fun v hv => by
    obtain ⟨t, rfl⟩ := g2 v hv
    obtain ⟨t', b, e, ht, hb⟩ := hx _ (by rw [g1]; exact List.mem_map.mpr ⟨_, hv, rfl⟩)
    cases e
    obtain ⟨_, its2, r2, o, ho, hc, n, hd⟩ := I.hok _ _ ht
    obtain ⟨u1, u2, rfl, ri, rj⟩ := vals2 r2
    obtain ⟨t1, rfl⟩ := ri
    obtain rfl : u2 = Value.ref b := rj
    have kb := key_of (ks := (k (backV (Value.ref t))).2.map Sum.inl) I.hok (by rw [sk_inl]; exact hb)
    obtain ⟨_, its3, r3, ob, hob, hcb, nb, hdb⟩ := I.hok _ _ hb
    exact ⟨t, o, t1, b, n, rfl, ho, hc, hd, its3.toArray, ⟨ob, hob, hcb, nb, hdb⟩, by simpa using Vals.ints r3, kb⟩
  refine SrtO.sorted_ord (LW.lexN_swo fun u => k (backV u)) hl.isList (by rw [← rv.length]; exact hz) (fun h2 h₁ b hb kk => ?_) fun out hs hb => ?_
  · refine LW.lw_sortable (s := { s with heap := h₁ }) (by show X.A.in1.in1.units < cLine; simp only [Around.in1]; omega) (by omega) (fun v m => (hp v m).keeps fun c o e _ => (kk c o e).2) fun o e => ?_
    have z : some o = some (seqObj "list" its.toArray 0) := by rw [← e, ← hb]
    cases z
    intro c
    exact absurd (Value.type.inj c) (by decide)
  · have h3 : ∀ u ∈ out, ∃ a, u = Value.ref a := fun u m => g2 u (hb.perm.mem_iff.mp m)
    obtain ⟨n, hn⟩ := PyProof.Rows.sortedAll_at s.heap its out.toArray
    have st : SrtO.Stb (fun u v => LW.lexN (k u) (k v)) (out.map backV) xs := by
      rw [g1]
      exact SrtO.Stb.map (LW.lexN_swo k) backV hb
    have fr := I.hok.fresh (Nat.le_succ s.heap.objs.size)
    refine ⟨.ref (s.heap.objs.size + 1), upd H (s.heap.objs.size + 1) (.lst (out.map backV)), I.laid (t' := s.toks) (fun _ _ => PyProof.Rows.sortedAll_old) (Nat.le_succ _) ⟨by rw [st.len]; exact hz, out, n, vals_back h3, hn⟩, rfl, q _ _ (SrtO.srtd_map hs) st fr⟩
end
end L2

set_option Elab.async false
set_option linter.all false
set_option maxRecDepth 100000
set_option maxHeartbeats 4000000
/-! dicts whose keys are tuples: d.items() unpacked, dict(d), a dict display by a comprehension -/
namespace L2
open PySem PySem.Spec PyProof.Rows
theorem kt_keys {H : Hp} {kvs : List (List Key × V)} {xs : List (List Key × Addr × Value)} (r : KT H kvs xs) : kvs.map (·.1) = xs.map (·.1) := by
  unfold KT at r
  induction r with
  | nil => rfl
  | cons g _ ih => rw [List.map_cons, List.map_cons, ih, g.1]
section
variable {X : Cx} {pins : List (Addr × Obj)} {σ : St} {H : Hp} {s : Shared} {d : Addr} {o : Obj}
/-- a locked dict with tuple keys: its table, its keys apart -/
theorem frzT_all {kvs : List (List Key × V)} (I : Inv X pins σ H s) (h : H d = some (.frz o (.dT kvs))) : (d == sysModules) = false ∧ s.heap.get? d = some o ∧ (kvs.map (·.1)).Nodup ∧
    ∃ (es : Array DictEntry) (ep : Nat), o.data = .dict es ep ∧ es.size = kvs.length ∧ DT.Raw s.heap d es ep ∧
      ∀ (i : Nat) (hi : i < es.size), ∃ (k : List Key) (v : V) (q : Addr), kvs[i]? = some (k, v) ∧ es[i].key = .ref q ∧ H q = some (.tup (k.map kV)) ∧ RelV v es[i].val := by
  obtain ⟨hd, z, hs, xs, pr, ob, es, ep, ho, hx, hdt, he, nd⟩ := I.hok d _ h
  rw [hd] at ho
  cases ho
  have l1 : es.size = xs.length := size_of_entries he
  have l2 : kvs.length = xs.length := Paired.length pr
  refine ⟨hs, hd, by rw [kt_keys pr]; exact nd, es, ep, hdt, by omega, ⟨_, hd, hx, hdt⟩, fun i hi => ?_⟩
  have e1 : kvs[i]? = some kvs[i] := List.getElem?_eq_getElem (by omega)
  obtain ⟨b, hb, g1, g2, g3⟩ := paired_get pr e1
  have q := entry_at he i
  rw [hb, Array.getElem?_eq_getElem hi] at q
  have q' : es[i] = entryOfKey (tupleKind (mixKind X.prog X.w)) b := Option.some.inj q
  refine ⟨kvs[i].1, kvs[i].2, b.2.1, e1, by rw [q'] <;> rfl, g2, by rw [q'] <;> exact g3⟩
end
/-- the pairs of the locked dict at d, each a new tuple -/
def ItsT (d : Addr) (o : Obj) (kvs : List (List Key × V)) : It :=
  ⟨fun i H => H d = some (.frz o (.dT kvs)) ∧ i < kvs.length,
    fun i H x H' => ∃ (T : Addr) (k : List Key) (v : V) (q : Addr), kvs[i]? = some (k, v) ∧ x = .ref T ∧ H q = some (.tup (k.map kV)) ∧ H T = none ∧ H' = upd H T (.tup [.ref q, v]),
    fun i H => H d = some (.frz o (.dT kvs)) ∧ kvs.length ≤ i⟩
section
variable {P : Program} {w : World} {K : PySem.W.Frag} {d : Addr} {o : Obj} {es : Array DictEntry} {ep : Nat}
theorem turn_itsT {kvs : List (List Key × V)} {elts : List Expr} {kk : Nat} {tpos : Pos} (it : Addr) (hod : o.data = .dict es ep) (hsz : es.size = kvs.length) :
    Turn P w K (.Tuple elts kk tpos) (ItsT d o kvs) [it] it (fun i h => ∃ ok ov, IsItemIter h it d i es.size ep ok ov) where
  mem := by simp
  obj := fun i h st b hb => by
    obtain rfl : b = it := by simpa using hb
    obtain ⟨ok, ov, e⟩ := st
    exact ⟨_, e, fun v z => nomatch z⟩
  keep := fun i h h' st kp => let ⟨ok, ov, e⟩ := st; ⟨ok, ov, kp it (by simp) _ e⟩
  item := by
    intro X eP ew eK hc i pins s σ H E I hf st hg
    subst eP ew eK
    obtain ⟨hd, hi⟩ := hg
    obtain ⟨hs, hgd, hnd, es2, ep2, hdt, hsz2, raw, ent⟩ := frzT_all I hd
    obtain ⟨e1, e2⟩ := dict_ep hod hdt
    subst e1 e2
    obtain ⟨ok, ov, he⟩ := st
    obtain ⟨k, v, q, hkv, ek, hq, rv⟩ := ent i (by omega)
    have low : it < s.heap.objs.size := Heap.lt_size he
    refine DT.nextI he raw (by omega) fun h1 ho hT hz hk => ?_
    refine ⟨_, rfl, wpAny_letOwnedTupleGo_items (s := { s with heap := h1 }) ho fun h2 ho2 sb => ?_⟩
    have hT2 := (sb.2 _ (Nat.ne_of_gt low)).trans hT
    have okT : ObjOk X.prog X.w (upd H s.heap.objs.size (.tup [.ref q, v])) h2 s.heap.objs.size (.tup [.ref q, v]) :=
      ⟨by show 2 ≤ sizeLine; decide, _, .cons (show RelV (.ref q) _ from ek) (.cons rv .nil), ⟨_, hT2, rfl, _, rfl⟩⟩
    have I1 : Inv X pins σ (upd H s.heap.objs.size (.tup [.ref q, v])) { s with heap := h2 } :=
      I.turnedNew (t' := s.toks) (ch := [it]) (fun b ob nb e => (sb.2 b (by simpa using nb)).trans (hk b ob (by simpa using nb) e)) hf (Nat.le_refl _) okT
    refine ⟨.ref s.heap.objs.size, _, I1, rfl, ⟨_, k, v, q, hkv, rfl, hq, I.hok.fresh (Nat.le_refl _), rfl⟩, ⟨_, _, ho2⟩, fun b hb => ?_⟩
    obtain rfl : b = it := by simpa using hb
    rw [upd_ne (Nat.ne_of_lt low)]
    exact (hf b (by simp)).1
  done := by
    intro X eP ew eK hc i pins s σ H E I hf st hg
    subst eP ew eK
    obtain ⟨hd, hi⟩ := hg
    obtain ⟨f0, f1, f2, f3, f4, f5⟩ := hf it (by simp)
    obtain ⟨hs, hgd, hnd, es2, ep2, hdt, hsz2, raw, ent⟩ := frzT_all I hd
    obtain ⟨e1, e2⟩ := dict_ep hod hdt
    subst e1 e2
    obtain ⟨ok, ov, he⟩ := st
    exact DT.endI (I.ok.hd hc) he raw (by omega) fun h1 eb => ⟨rfl, I.turned (t' := s.toks) (fun b ob nb e => eb b ob nb e) f0 f1 f3 f4 f5⟩
  self := fun A i s Q E st h => let ⟨_, _, e⟩ := st; PySem.W.kcp_self e h
end
/-- for .. in e.items(), the dict with tuple keys locked -/
def iItsT (td : TE) : TI := fun σ H R => td σ H fun x H1 => ∃ d o kvs, x = .ref d ∧ H1 d = some (.frz o (.dT kvs)) ∧ ((kvs.map (·.1)).Nodup → R (ItsT d o kvs) H1)
theorem pi_itsT {X : Cx} {e : Expr} {td : TE} {apos cpos : Pos} {elts : List Expr} {kk : Nat} {tpos : Pos} (he : PE X e td) (hbase : attributeBase e "items" X.env (eval e X.env) = eval e X.env := by rfl) (hline : (apos.endLine == cpos.line) = true := by rfl) :
    PI X (.Tuple elts kk tpos) (.Call (.Attribute e "items" apos) [] [] cpos) (iItsT td) := by
  refine ⟨fun pins s σ H R I h => wpAny_Call_method (T := "dict") (id := "dict.items") hbase rfl hline F.plainAttrs_dict F.slot_dict_items F.type_dict_items (thn (he.run pins s σ H _ I h) fun u s1 q => ?_)⟩
  obtain ⟨x, H1, I1, rx, d, o, kvs, rfl, hd, q⟩ := q
  obtain rfl : u = Value.ref d := rx
  obtain ⟨hs, hgd, hnd, es, ep, hdt, hsz, raw, ent⟩ := frzT_all I1 hd
  obtain ⟨ob, g1, g2, g3⟩ := id raw
  refine ⟨raw.typeIs, fun a ea => by cases ea; exact ⟨_, g1, g2.2.1⟩, ?_⟩
  have I2 : Inv X pins σ H1 { s1 with heap := s1.heap.push { cls := .type "dict_items", data := .fields #[.ref d] } } := I1.kept (t' := s1.toks) fun b c g => Heap.get?_push_of_some _ g
  have fin : wpAny (model X.prog X.w) X.A (pyIter (.ref s1.heap.objs.size)) (PIE X pins σ (.Tuple elts kk tpos) R) X.xe { s1 with heap := s1.heap.push { cls := .type "dict_items", data := .fields #[.ref d] } } :=
    DT.iterI (d := d) (es := es) (ep := ep) ⟨_, Heap.get?_push_size _ rfl, rfl, rfl⟩ (raw.push _) (pi_one (tk := s1.toks) I2 _ (turn_itsT _ hdt hsz) ⟨.none, .none, Heap.get?_push_size _ rfl⟩ (q hnd))
  exact method_meetsIn F.slot_dict_items F.entry_dict_items rfl (PySem.evalArgs_none ⟨rfl, raw.typeIs, F.args_dict_items_1 _, _, DT.meetsItems hs, ⟨raw, fin⟩⟩)
/-! dict(d) -/
section
variable {prog : Program} {w : World} {κ : Type} [DecidableEq κ] {knd : HeapKind prog w κ} {A : Around} {E : Value → Shared → Prop} {s : Shared}
theorem dictH_of {a : Addr} {m : List (κ × Addr × Value)} {Q : Value → Shared → Prop} (hu : knd.room A.in1.in1) (hs : (a == sysModules) = false) (ha : s.heap.DictOfH knd a m)
    (hap : (∀ x ∈ m, s.TypeIs (.ref x.2.1) "tuple") ∧ (m.map fun x => knd.hash x.1).Nodup) (hz : m.length ≤ sizeLine) (ex : ∀ x ∈ m, knd.is (s.heap.push { cls := .type "dict", data := .dict #[] }) x.1 x.2.1)
    (h : ∀ h', h'.DictOfH knd s.heap.objs.size m → (∀ b o, s.heap.get? b = some o → h'.get? b = some o) → Q (.ref s.heap.objs.size) { s with heap := h' }) : wpAny (model prog w) A (call (.type "dict") [.ref a]) Q E s := by
  refine callType_codes (Q₁ := fun ob t => ob = .ref s.heap.objs.size ∧ t = { s with heap := s.heap.push { cls := .type "dict", data := .dict #[] } }) F.kt_called_dict (F.kt_typeCall_dict_1 _) F.entry_dict_init (kt_code_dict_new _ ⟨rfl, rfl⟩) ?_
  intro ob t e
  obtain ⟨rfl, rfl⟩ := e
  have d0 : (s.heap.push { cls := .type "dict", data := .dict #[] }).DictOfH knd s.heap.objs.size [] := ⟨_, #[], 0, Heap.get?_push_size _ rfl, ⟨rfl, rfl, rfl⟩, rfl, rfl, (by intro x hx; cases hx), List.nodup_nil⟩
  obtain ⟨oa, es, ep, g1, g2, g3, g4, g5, g6⟩ := id ha
  have da : (s.heap.push { cls := .type "dict", data := .dict #[] }).DictOfH knd a m := ⟨oa, es, ep, Heap.get?_push_of_some _ g1, g2, g3, g4, ex, g6⟩
  have apart : s.heap.objs.size ≠ a := Nat.ne_of_gt (Heap.lt_size g1)
  refine ⟨d0.typeIs, F.args_dict_init_2 _ _, ?_⟩
  unfold Builtin.«dict.__init__»
  refine wpAny_bind ?_
  unfold Builtin.Dict.selfAndRest
  refine wpAny_bind (wpAny_notOrdered_dict d0.typeIs ?_)
  show wpAny _ _ (pure (s.heap.objs.size, [Value.ref a])) _ _ _
  refine wpAny_pure ?_
  show wpAny _ _ (Builtin.Dict.updateFrom "dict.__init__" s.heap.objs.size (.ref a) [] .none) _ _ _
  refine updateFrom_dictH (w := w) .none hu apart hs d0 da (.inr ⟨fun x hx => (hap.1 x hx).elim fun o q => ⟨o, Heap.get?_push_of_some _ q.1, q.2⟩, hap.2⟩) (by simpa using hz) fun h' e1 e2 sb => ?_
  rw [storedAllH_nil_of_nodup _ g6] at e1
  exact ⟨rfl, h h' e1 fun b o q => (sb.2 b (Nat.ne_of_lt (Heap.lt_size q))).trans (Heap.get?_push_of_some _ q)⟩
end
/-- the hash of a tuple of whole numbers -/
def hashT (ns : List Int) : Int := reduceHash (Builtin.Tuple.tupleHashOf (ns.map hashInt))
theorem hashT_is {P : Program} {w : World} (ns : List Int) : (tupleKind (mixKind P w)).hash (ns.map Sum.inl) = hashT ns := by
  show reduceHash (Builtin.Tuple.tupleHashOf ((ns.map Sum.inl).map (mixKind P w).hash)) = hashT ns
  rw [List.map_map] <;> rfl
section
variable {X : Cx}
/-- dict(d), keys tuples of whole numbers that hash apart -/
def rDictT : List V → Hp → VK → Prop := fun xs H Q => ∃ (a : Addr) (kvs : List (List Key × V)) (ns : List (List Int)), xs = [.ref a] ∧ H a = some (.dT kvs) ∧ kvs.map (·.1) = ns.map (fun n => n.map Sum.inl) ∧ (ns.map hashT).Nodup ∧ ∀ p, H p = none → Q (.ref p) (upd H p (.dT kvs))
theorem call_dictT (hu : X.A.units + 2 < cLine) : CallR X (.type "dict") rDictT := by
  intro pins s σ H xs us Q I r q
  obtain ⟨a, kvs, ns, rfl, hd, hk, hn, q⟩ := q
  obtain ⟨u, rfl, rx⟩ := vals1 r
  obtain rfl : u = Value.ref a := rx
  obtain ⟨z, lo, xs, rel, dd⟩ := dt_of I.hok hd
  have hx : xs.length ≤ sizeLine := by rw [← Paired.length rel]; exact z
  have keyed : ∀ x ∈ xs, H x.2.1 = some (.tup (x.1.map kV)) := fun x m => by
    obtain ⟨j, hj, rfl⟩ := List.getElem_of_mem m
    obtain ⟨y, hy, e1, e2, _⟩ := DX.pget rel (List.getElem?_eq_getElem hj)
    rw [← e1]
    exact e2
  refine dictH_of hu lo dd ⟨fun x m => ?_, ?_⟩ hx (fun x m => ?_) fun h' d' kp => ?_
  · obtain ⟨o, its, n, g1, g2, _⟩ := key_of I.hok (keyed x m)
    exact ⟨o, g1, g2⟩
  · have e : xs.map (fun x => (tupleKind (mixKind X.prog X.w)).hash x.1) = ns.map hashT := by
      have e1 : xs.map (fun x => (tupleKind (mixKind X.prog X.w)).hash x.1) = (xs.map (·.1)).map (tupleKind (mixKind X.prog X.w)).hash := by rw [List.map_map] <;> rfl
      rw [e1, ← kt_keys rel, hk, List.map_map]
      exact List.map_congr_left fun n _ => hashT_is n
    rw [e]
    exact hn
  · obtain ⟨o, its, n, g1, g2⟩ := key_of I.hok (keyed x m)
    exact ⟨o, its, n, Heap.get?_push_of_some _ g1, g2⟩
  · have hm : (s.heap.objs.size == sysModules) = false := beq_eq_false_iff_ne.mpr (Nat.ne_of_gt I.big)
    have fr := I.hok.fresh (Nat.le_refl s.heap.objs.size)
    obtain ⟨o, es, ep, g1, g2, g3, g4, _, g6⟩ := d'
    refine ⟨.ref s.heap.objs.size, upd H s.heap.objs.size (.dT kvs), I.laid (t' := s.toks) kp (Nat.le_refl _)
      (show ObjOk X.prog X.w _ _ _ (.dT kvs) from ⟨z, hm, xs, rel.keeps fun b ys e => by rw [upd_ne (ne_of_none e fr)]; exact e, o, es, ep, g1, g2, g3, g4, g6⟩), rfl, q _ fr⟩
end
end L2

set_option Elab.async false
set_option linter.all false
set_option maxRecDepth 100000
set_option maxHeartbeats 4000000
/-! {a: b for .. in ..}, the keys tuples -/
namespace L2
open PySem PySem.Spec PyProof.Rows
theorem put_dT {X : Cx} {pins : List (Addr × Obj)} {σ : St} {H : Hp} {s : Shared} {E : Value → Shared → Prop} {D b : Addr} {m : List (List Key × V)} {k : List Key} {v : V} {u r : Value} {Q : Unit → Shared → Prop} (hu : X.A.units + 1 < cLine) (I : Inv X pins σ H s)
    (hD : H D = some (.dT m)) (hb : H b = some (.tup (k.map kV))) (hm : m.length < sizeLine) (ru : RelV (.ref b) u) (rr : RelV v r) (h : ∀ s', Inv X pins σ (upd H D (.dT (putK m k v))) s' → Q () s') : wpAny (model X.prog X.w) X.A (dictSet D u r) Q E s := by
  obtain rfl : u = Value.ref b := ru
  obtain ⟨z, lo, ys, rel, dd⟩ := dt_of I.hok hD
  have zy : ys.length ≤ sizeLine := (Paired.length rel) ▸ z
  have zl : (putK m k v).length ≤ sizeLine := Nat.le_trans (length_putK m k v) hm
  refine wpAny_dictSet_heap (hsz := zy) (show X.A.units < cLine by omega) (key_of I.hok hb) dd fun h1 d1 sb => h _ ?_
  obtain ⟨o, es, ep, g1, g2, g3, g4, _, g5⟩ := d1
  refine d_write I (by rw [hD]; exact True.intro) sb ⟨o, g1⟩ ⟨zl, lo, _, (rel.put k hb rr).keeps fun c xs e => ?_, o, es, ep, g1, g2, g3, g4, g5⟩
  rw [upd_ne (ne_of e hD (fun q => nomatch q))]
  exact e
def tDcT (wi : TI) (g : TG) (tk tv : TE) (vs : List Nat) : TE := fun σ H Q => wi σ H fun J H1 => ∀ D, H1 D = none → ∃ W : Nat → Nat → Hp → Prop, (∃ m, W 0 m (upd H1 D (.dT []))) ∧ ∀ i m H, W i m H →
  (J.stop i H ∧ Q (.ref D) H) ∨ (J.go i H ∧ ∃ Nx : Hp → Prop, (∀ H', Nx H' → ∃ m', m' < m ∧ W (i + 1) m' H') ∧ ∀ x H', J.yld i H x H' → g x (wipe σ vs) H' fun σ2 H2 => wipe σ2 vs = wipe σ vs ∧
    tk σ2 H2 fun y H4 => tv σ2 H4 fun z H5 => ∃ kvs k b, y = .ref b ∧ H5 b = some (.tup (k.map kV)) ∧ H5 D = some (.dT kvs) ∧ kvs.length < sizeLine ∧ Nx (upd H5 D (.dT (putK kvs k z))))
section
variable {X : Cx}
theorem pe_dcT {kx vx tg iter : Expr} {scope : Scope} {own : List (Str × Nat)} {pos : Pos} {wi : TI} {g : TG} {tk tv : TE} (hu : X.A.units + 1 < cLine) (hc : X.calm = true) (hN : X.N.Nodup) (src : PI X tg iter wi) (ok : BlkOk X.N X.env.scope scope own)
    (pg : ∀ (s : Shared) (H : Hp) (C : Addr) (cl : List (Str × Addr)) (fp : List Addr), PG (X.blk s H scope (compEnvC scope cl C X.env) fp) tg g)
    (pk : ∀ (s : Shared) (H : Hp) (C : Addr) (cl : List (Str × Addr)) (fp : List Addr), PE (X.blk s H scope (compEnvC scope cl C X.env) fp) kx tk)
    (pv : ∀ (s : Shared) (H : Hp) (C : Addr) (cl : List (Str × Addr)) (fp : List Addr), PE (X.blk s H scope (compEnvC scope cl C X.env) fp) vx tv) (fold : ∀ x, foldedSetIterable iter X.env x = pure x := by intro _; rfl) :
    PE X (.DictComp kx vx [⟨tg, iter, [], 0⟩] scope pos) (tDcT wi g tk tv (own.map (·.2))) := by
  refine ⟨fun pins s σ H Q I h => ?_⟩
  rw [arm_eval_DictComp]
  have back : ∀ D C t m H', Inv X pins σ H' t → Q (.ref D) H' → t.heap.Ns C m → FpOk X pins H' C → compPost (model X.prog X.w) X.A X.xe none (EP X pins σ Q) (.ref D) C (.ok .next) t := by
    intro D C t m H' I' q hn fp
    obtain ⟨f0, f1, f2, f3, f4, f5⟩ := fp
    exact ⟨m, hn, fun h'' sb => ⟨.ref D, H', I'.turned (t' := t.toks) (fun b o nb e => (sb.2 b nb).trans e) f0 f1 f3 f4 f5, rfl, q⟩⟩
  have cells : ∀ y ∈ scope.names, y.2 = .free → ∃ c, X.env.cells.lookup y.1 = some c := fun y m e =>
    (ok.free y m e).elim (fun z => I.ok.has _ (.inl z)) fun z => I.ok.has _ (.inr z)
  refine wpAny_comprehension_free (use := none) rfl fold (closure_ok cells) ok.kind (fun y m e => by rw [ok.uniq y m, e]) (thn (src.run pins s σ H _ I h) fun xv s1 g1 => thn g1 fun iv s2 g2 => ?_)
  obtain ⟨it, fp, tn, J, Hs, rfl, Is, T, st, ff, q⟩ := g2
  refine wpAny_newObj_type (newEnv_comp ?_)
  have dfree : Hs s2.heap.objs.size = none := Is.hok.fresh (Nat.le_refl _)
  obtain ⟨W, ⟨w, w0⟩, turn⟩ := q _ dfree
  -- the dict is laid
  have kp : ∀ b o, s2.heap.get? b = some o → (s2.heap.push { cls := .type "dict", data := .dict #[] }).get? b = some o := fun b o e => Heap.get?_push_of_some _ e
  have Id : Inv X pins σ (upd Hs s2.heap.objs.size (.dT [])) { s2 with heap := s2.heap.push { cls := .type "dict", data := .dict #[] } } := Is.laid (t' := s2.toks) kp (Nat.le_refl _) (dt_empty s2.heap Is.big)
  have fd : ∀ b ∈ fp, FpOk X pins (upd Hs s2.heap.objs.size (.dT [])) b ∧ b < (s2.heap.push { cls := .type "dict", data := .dict #[] }).objs.size := fun b m => by
    obtain ⟨o, e, _⟩ := T.obj _ _ st b m
    have lt := Heap.lt_size e
    exact ⟨⟨by rw [upd_ne (Nat.ne_of_lt lt)]; exact (ff b m).1, (ff b m).2⟩, by rw [Heap.size_push]; exact Nat.lt_succ_of_lt lt⟩
  have td := T.keep _ _ _ st fun b _ o e => kp b o e
  generalize ed : ({ s2 with heap := s2.heap.push { cls := .type "dict", data := .dict #[] } } : Shared) = sd at Id fd td
  have hsd : s2.heap.push { cls := .type "dict", data := .dict #[] } = sd.heap := by rw [← ed]
  rw [hsd] at fd td
  generalize s2.heap.objs.size = D at *
  generalize eH : upd Hs D (.dT []) = Hd at *
  -- the block
  have Ib := block_start Id ok hN fd
  have pg := pg sd Hd sd.heap.objs.size (cellsFrom (sd.heap.objs.size + 1) scope.names (cloFrom X.env.cells scope.names [])) fp
  have pk := pk sd Hd sd.heap.objs.size (cellsFrom (sd.heap.objs.size + 1) scope.names (cloFrom X.env.cells scope.names [])) fp
  have pv := pv sd Hd sd.heap.objs.size (cellsFrom (sd.heap.objs.size + 1) scope.names (cloFrom X.env.cells scope.names [])) fp
  have nfp : ∀ b ∈ fp, Hd b = none := fun b m => (fd b m).1.1
  show codeAny _ _ (.compStart _ 0 (.ref it) (.ref D) (compEnvC scope (cellsFrom (sd.heap.objs.size + 1) scope.names (cloFrom X.env.cells scope.names [])) sd.heap.objs.size X.env)) (compPost (model X.prog X.w) X.A X.xe none (EP X pins σ Q) (.ref D) sd.heap.objs.size) _
  have eb : ({ sd with heap := pushCells (sd.heap.push { cls := .type "dict", data := .dict #[] }) scope.names } : Shared) = { sd with heap := pushCells (sd.heap.push { cls := .type "dict", data := .dict #[] }) scope.names } := rfl
  have cl : (compEnvC scope (cellsFrom (sd.heap.objs.size + 1) scope.names (cloFrom X.env.cells scope.names [])) sd.heap.objs.size X.env).locals = sd.heap.objs.size := rfl
  generalize compEnvC scope (cellsFrom (sd.heap.objs.size + 1) scope.names (cloFrom X.env.cells scope.names [])) sd.heap.objs.size X.env = en at Ib pg pk pv cl ⊢
  have tb : tn 0 (pushCells (sd.heap.push { cls := .type "dict", data := .dict #[] }) scope.names) := T.keep _ _ _ td fun b _ o e => pushCells_keeps _ _ _ _ (Heap.get?_push_of_some _ e)
  have good : ∀ {σ' : St} {H' : Hp} {t : Shared}, Inv (X.blk sd Hd scope en fp) [] σ' H' t → (∀ b ∈ fp, H' b = none) → ∀ b ∈ fp, FpOk (X.blk sd Hd scope en fp) [] H' b := fun I' hn b m =>
    ⟨hn b m, (I'.ok.exf b m).1, I'.ok.exfs b m, .inl m, fun x c e => (I'.ok.exf b m).2 x c e, fun p hp => by simp at hp⟩
  have loop : codeAny (model X.prog X.w) X.A (.compLoop (.DictComp kx vx [⟨tg, iter, [], 0⟩] scope pos) 0 (.ref it) (.ref D) en) (compPost (model X.prog X.w) X.A X.xe none (EP X pins σ Q) (.ref D) sd.heap.objs.size) { sd with heap := pushCells (sd.heap.push { cls := .type "dict", data := .dict #[] }) scope.names } := by
    refine compLoop_anyD (fun n t => ∃ i Ht, Inv (X.blk sd Hd scope en fp) [] (wipe σ (own.map (·.2))) Ht t ∧ tn i t.heap ∧ (∀ b ∈ fp, Ht b = none) ∧ W i n Ht) (fun n t g => ?_) w ⟨0, Hd, Ib, tb, nfp, w0⟩
    obtain ⟨i, Ht, It, tt, nt, wt⟩ := g
    rcases turn i n Ht wt with ⟨stop, qq⟩ | ⟨go, Nx, next, step⟩
    · have fin := T.done (X.blk sd Hd scope en fp) rfl rfl rfl hc i [] t _ Ht (fun _ _ => False) It (good It nt) tt stop
      refine thnF fin fun r t2 e => ?_
      obtain ⟨rfl, I2⟩ := e
      have I3 : Inv X pins σ Ht t2 := Id.call' (ch := fp) I2.os I2.base I2.hok I2.bare fun b m => ⟨(fd b m).1.2.2.2.1, (fd b m).1.2.1, (fd b m).1.2.2.2.2.1, (fd b m).1.2.2.2.2.2⟩
      have nC : Ht sd.heap.objs.size = none := by
        have z : Ht en.locals = none := I2.free
        rwa [cl] at z
      obtain ⟨m, hn, _⟩ := I2.loc
      exact back D sd.heap.objs.size t2 m Ht I3 qq (by rw [← cl]; exact hn) (Id.fpOk (Nat.le_refl _) nC)
    · have one := T.item (X.blk sd Hd scope en fp) rfl rfl rfl hc i [] t _ Ht (fun _ _ => False) It (good It nt) tt go
      refine thnF one fun r t2 e => ?_
      obtain ⟨u, rfl, e⟩ := e
      refine thnF e fun _ t3 e => ?_
      obtain ⟨x, H3, I3, r3, y3, tt3, n3⟩ := e
      refine thnF (pg.run _ t3 _ H3 x u _ (I3.pinned (good I3 n3) (T.obj _ _ tt3)) r3 (step x H3 y3)) fun _ t4 e => ?_
      obtain ⟨σ4, H4, I4, w4, q4⟩ := e
      refine wpAny_tests_nil ?_
      refine thnF (pk.run _ t4 σ4 H4 _ I4 q4) fun kv t5 e => ?_
      obtain ⟨yk, H5, I5, r5, q5⟩ := e
      refine thnF (pv.run _ t5 σ4 H5 _ I5 q5) fun vv t6 e => ?_
      obtain ⟨yv, H6, I6, r6, m, k, b, rfl, hb, hD, hz, nx⟩ := e
      refine put_dT (X := X.blk sd Hd scope en fp) hu I6 hD hb hz r5 r6 fun t7 I7 => ?_
      obtain ⟨m', lt, w7⟩ := next _ nx
      have pinned : ∀ c ∈ fp, ∀ o, t3.heap.get? c = some o → t7.heap.get? c = some o ∧ (upd H6 D (.dT (putK m k yv))) c = none := fun c hc2 o e =>
        let z := I7.pin (c, o) (List.mem_append_right _ (List.mem_append_right _ (mem_pinsAt hc2 e)))
        ⟨z.1, z.2.1⟩
      have len : (wipe σ (own.map (·.2))).length = σ4.length := by rw [← w4, wipe_length]
      refine ⟨m', lt, i + 1, _, (I7.unpinned (pins := [])).weak len (fun j v e => ?_), T.keep _ _ _ tt3 fun c hc2 o e => (pinned c hc2 o e).1, fun c hc2 => ?_, w7⟩
      · rw [← w4] at e
        exact (wipe_some e).1
      · obtain ⟨o, e, _⟩ := T.obj _ _ tt3 c hc2
        exact (pinned c hc2 o e).2
  exact codeAny_compStart_dict loop (T.self X.A 0 _ _ _ tb loop)
end
end L2

set_option Elab.async false
set_option linter.all false
set_option maxRecDepth 100000
set_option maxHeartbeats 4000000
/-! ### a small layer of one's own over HandS -/
namespace L2
open PySem PySem.Spec PyProof.Rows
theorem b_len : bootBuiltins "len" = some (.builtin "len") := by decide +kernel
theorem b_abs : bootBuiltins "abs" = some (.builtin "abs") := by decide +kernel
theorem b_ord : bootBuiltins "ord" = some (.builtin "ord") := by decide +kernel
theorem b_isinstance : bootBuiltins "isinstance" = some (.builtin "isinstance") := by decide +kernel
theorem b_int : bootBuiltins "int" = some (.type "int") := by decide +kernel
theorem b_str : bootBuiltins "str" = some (.type "str") := by decide +kernel
theorem b_bool : bootBuiltins "bool" = some (.type "bool") := by decide +kernel
theorem b_tuple : bootBuiltins "tuple" = some (.type "tuple") := by decide +kernel
theorem b_list : bootBuiltins "list" = some (.type "list") := by decide +kernel
/-! defs, methods, classes by their names -/
structure CalX (P : Program) (w : World) (K : PySem.W.Frag) (mg : Str → Option Value) (base : Heap) (CX : CXT) (k : Nat) (x : Str) (sp : Sp) : Prop where
  ex : ∃ (f : Addr) (fd : FuncData) (ps : List Str), FnOk P w K mg base CX k f fd ps sp ∧ mg x = some (.ref f) ∧ PySem.W.keepIn K (.ref f) = true ∧ Binds K fd ps []
structure MetX (P : Program) (w : World) (K : PySem.W.Frag) (mg : Str → Option Value) (base : Heap) (CX : CXT) (k : Nat) (C : Addr) (m : Str) (sp : Sp) : Prop where
  ex : ∃ (f : Addr) (fd : FuncData) (ps : List Str), FnOk P w K mg base CX k f fd ps sp ∧ Cls K C ∧ Meth K C m f ∧ Binds K fd ps []
structure MakX (P : Program) (w : World) (K : PySem.W.Frag) (mg : Str → Option Value) (base : Heap) (CX : CXT) (k : Nat) (x : Str) (C : Addr) (sp : Sp) : Prop where
  ex : ∃ (f : Addr) (fd : FuncData) (ps : List Str), Mk K C f ∧ FnOk P w K mg base CX k f fd ps sp ∧ mg x = some (.ref C) ∧ Binds K fd ps []
section
variable {X : Cx} {CX : CXT} {k j : Nat} {C : Addr} {x m : Str} {sp : Sp} {E : XK} {p pos apos : Pos} {e o : Expr} {es : List Expr} {ta : TE} {t : TA}
theorem pe_u (c : CalX X.prog X.w X.K X.mg X.base CX k x sp) (hr : Room j X.A) (hk : k ≤ j) (hx : Passes CX X E) (ha : PA X (e :: es) t) (hg : Gl X x := by rfl) (hd : (x == ("__debug__" : Str)) = false := by decide)
    (he : starEach (e :: es) X.env = (false, eval e X.env) :: starEach es X.env := by rfl) (hpl : (backTo pos (starEach es X.env)).any (·.1) = false := by rfl) :
    PE X (.Call (.Name x p) (e :: es) [] pos) (tCall sp [] E t) := by
  obtain ⟨f, fd, ps, F, hm, hkp, hb⟩ := c.ex
  exact pe_call F (hr.mono hk) hg hm hkp hb .nil hx ha hd he hpl
theorem pe_u0 (c : CalX X.prog X.w X.K X.mg X.base CX k x sp) (hr : Room j X.A) (hk : k ≤ j) (hx : Passes CX X E) (hg : Gl X x := by rfl) (hd : (x == ("__debug__" : Str)) = false := by decide) :
    PE X (.Call (.Name x p) [] [] pos) (tCall sp [] E tNil) := by
  obtain ⟨f, fd, ps, F, hm, hkp, hb⟩ := c.ex
  exact pe_call0 F (hr.mono hk) hg hm hkp hb .nil hx hd
theorem pe_uS {E : St → XK} (c : CalX X.prog X.w X.K X.mg X.base CX k x sp) (hr : Room j X.A) (hk : k ≤ j) (hx : ∀ σ, PassesAt CX X σ (E σ)) (ha : PA X (e :: es) t) (hg : Gl X x := by rfl) (hd : (x == ("__debug__" : Str)) = false := by decide)
    (he : starEach (e :: es) X.env = (false, eval e X.env) :: starEach es X.env := by rfl) (hpl : (backTo pos (starEach es X.env)).any (·.1) = false := by rfl) :
    PE X (.Call (.Name x p) (e :: es) [] pos) (tCallS sp E t) := by
  obtain ⟨f, fd, ps, F, hm, hkp, hb⟩ := c.ex
  exact pe_callS F (hr.mono hk) hg hm hkp hb hx ha hd he hpl
theorem pe_me {pl : Sem Bool} (c : MetX X.prog X.w X.K X.mg X.base CX k C m sp) (hr : Room j X.A) (hk : k ≤ j) (hx : Passes CX X E) (he : PE X o ta) (ha : PA X (e :: es) t)
    (hc : eval (.Call (.Attribute o m apos) (e :: es) [] pos) X.env = (do
      let ov ← eval o X.env
      standAt apos.atName
      let (f, first) ← holding [ov] (getMethod ov m pl)
      callWith pos f first (backTo pos (starEach (e :: es) X.env)) (backToKw pos (keywordEach [] X.env))) := by rfl)
    (hs : starEach (e :: es) X.env = (false, eval e X.env) :: starEach es X.env := by rfl) (hpl : (backTo pos (starEach es X.env)).any (·.1) = false := by rfl) :
    PE X (.Call (.Attribute o m apos) (e :: es) [] pos) (tMeth C m sp [] E ta t) := by
  obtain ⟨f, fd, ps, F, cl, hm, hb⟩ := c.ex
  exact pe_meth he cl hm F (hr.mono hk) hb .nil hx ha hs hpl hc
theorem pe_me0 {pl : Sem Bool} (c : MetX X.prog X.w X.K X.mg X.base CX k C m sp) (hr : Room j X.A) (hk : k ≤ j) (hx : Passes CX X E) (he : PE X o ta)
    (hc : eval (.Call (.Attribute o m apos) [] [] pos) X.env = (do
      let ov ← eval o X.env
      standAt apos.atName
      let (f, first) ← holding [ov] (getMethod ov m pl)
      callWith pos f first (backTo pos (starEach [] X.env)) (backToKw pos (keywordEach [] X.env))) := by rfl) :
    PE X (.Call (.Attribute o m apos) [] [] pos) (tMeth C m sp [] E ta tNil) := by
  obtain ⟨f, fd, ps, F, cl, hm, hb⟩ := c.ex
  exact pe_meth0 he cl hm F (hr.mono hk) hb .nil hx hc
theorem pe_n (c : MakX X.prog X.w X.K X.mg X.base CX k x C sp) (hr : Room j X.A) (hk : k + 1 ≤ j) (hx : Passes CX X E) (ha : PA X (e :: es) t) (hg : Gl X x := by rfl) (hd : (x == ("__debug__" : Str)) = false := by decide)
    (he : starEach (e :: es) X.env = (false, eval e X.env) :: starEach es X.env := by rfl) (hpl : (backTo pos (starEach es X.env)).any (·.1) = false := by rfl) :
    PE X (.Call (.Name x p) (e :: es) [] pos) (tMake C sp [] E t) := by
  obtain ⟨f, fd, ps, M, F, hm, hb⟩ := c.ex
  exact pe_make M F (hr.mono hk) hg hm hb .nil hx ha hd he hpl
theorem pe_n0 (c : MakX X.prog X.w X.K X.mg X.base CX k x C sp) (hr : Room j X.A) (hk : k + 1 ≤ j) (hx : Passes CX X E) (hg : Gl X x := by rfl) (hd : (x == ("__debug__" : Str)) = false := by decide) :
    PE X (.Call (.Name x p) [] [] pos) (tMake C sp [] E tNil) := by
  obtain ⟨f, fd, ps, M, F, hm, hb⟩ := c.ex
  exact pe_make0 M F (hr.mono hk) hg hm hb .nil hx hd
end
/-! rules -/
section
variable {X : Cx}
def rGetL (K : PySem.W.Frag) : V → V → Hp → VK → Prop := fun x y H Q => ∃ p xs i v, x = .ref p ∧ y = .int i ∧ SqL K H p xs ∧ 0 ≤ i ∧ atI xs i = some v ∧ Q v H
theorem get_list : PGet X (rGetL X.K) := by
  intro pins s σ H o i ov iv Q I ro ri h
  obtain ⟨p, xs, k, v, rfl, rfl, hq, h0, he, q⟩ := h
  cases ro
  obtain ⟨t, rfl⟩ := ri
  obtain ⟨its, r, pl, hz⟩ := I.list hq
  obtain ⟨j, h1, h2, h3, h4, h5⟩ := atI_get he
  obtain ⟨w, ew, rw'⟩ := r.get h2
  have hl := r.length
  have hn := line63
  have hj : k.toNat = j := by
    rw [seqIndex_of h0 h5] at h1
    exact Option.some.inj h1
  exact wpAny_getItem_list pl.isList h0 (by omega) (by rw [hj]; simpa using ew) ⟨v, H, I, rw', q⟩
/-- list(text) -/
def ones (l : List Nat) : List V := l.map fun c => V.str ⟨#[c]⟩
def rListStr : List V → Hp → VK → Prop := fun xs H Q => ∃ x : Str, xs = [.str x] ∧ x.length ≤ sizeLine ∧ ∀ p, H p = none → Q (.ref p) (upd H p (.lst (ones x.cps.toList)))
theorem call_list_str (hc : X.calm = true) : CallR X (.type "list") rListStr := by
  intro pins s σ H xs us Q I r h
  obtain ⟨x, rfl, hz, q⟩ := h
  obtain ⟨u, rfl, rx⟩ := vals1 r
  obtain ⟨t, rfl⟩ := rx
  have hz' : x.cps.size ≤ sizeLine := hz
  refine PySem.call_list_str (I.ok.hd hc) x t (fun h' tk acc' c' hk hS hacc => ?_) hz'
  have hv : Vals (ones x.cps.toList) acc'.toList := by
    have all : ∀ (n : Nat) (l : List Nat) (m : List Value), l.length = n → m.length = n → (∀ (j : Nat) (v : Value), m[j]? = some v → ∃ (c : Nat) (u : Tok), l[j]? = some c ∧ v = Value.str ⟨#[c]⟩ u) → Vals (ones l) m := by
      intro n
      induction n with
      | zero =>
        intro l m h1 h2 _
        obtain rfl := List.length_eq_zero_iff.mp h1
        obtain rfl := List.length_eq_zero_iff.mp h2
        exact .nil
      | succ n ih =>
        intro l m h1 h2 hm
        cases l with
        | nil => simp at h1
        | cons a l =>
          cases m with
          | nil => simp at h2
          | cons b m =>
            obtain ⟨c, u, e1, e2⟩ := hm 0 b rfl
            have e1' : a = c := Option.some.inj e1
            subst e1'
            exact .cons ⟨u, e2⟩ (ih l m (by simpa using h1) (by simpa using h2) fun j v e => hm (j + 1) v e)
    refine all x.cps.size _ _ (by simp) (by simpa using hacc.1) fun j v e => ?_
    obtain ⟨c, u, e1, e2⟩ := hacc.2 j v (by simpa using e)
    exact ⟨c, u, by simpa using e1, e2⟩
  have hl : (ones x.cps.toList).length ≤ sizeLine := by
    unfold ones
    rw [List.length_map]
    simpa using hz'
  exact ⟨.ref s.heap.objs.size, _, I.laid (t' := tk) hk (Nat.le_refl _) (show ObjOk X.prog X.w _ h' _ (.lst (ones x.cps.toList)) from ⟨hl, acc'.toList, c', hv, by rw [Array.toArray_toList]; exact hS⟩), rfl, q _ (I.hok.fresh (Nat.le_refl _))⟩
/-- text * n -/
theorem op_mul_str : OpR X (binaryOp .Mult) (fun x y H Q => ∃ z n, x = .str z ∧ y = .int n ∧ MulOk z n ∧ Q (.str (Txt.mul z n)) H) := by
  intro pins s σ H x y v u Q I rx ry h
  obtain ⟨z, n, rfl, rfl, hok, q⟩ := h
  obtain ⟨t, rfl⟩ := rx
  obtain ⟨t', rfl⟩ := ry
  exact SB.mul hok fun t' k => ⟨.str _, H, I.tok k, ⟨_, rfl⟩, q⟩
end
/-! more -/
section
variable {X : Cx}
/-- a module's whole number -/
theorem pe_gi {x : Str} {n : Int} {pos : Pos} (hm : ∃ t, X.mg x = some (.int n t)) (hg : Gl X x := by rfl) (hd : (x == ("__debug__" : Str)) = false := by decide) : PE X (.Name x pos) (tC (.int n)) := by
  obtain ⟨t, e⟩ := hm
  exact pe_glob hg e ⟨_, rfl⟩ hd
end
/-! with the written part named (within a comprehension) -/
section
variable {X : Cx}
theorem ixK_tup (K : PySem.W.Frag) (h : X.K = K) : IxR X (rIxT K) := by subst h; exact ix_tup
theorem ixK_list (K : PySem.W.Frag) (h : X.K = K) : IxR X (rIxL K) := by subst h; exact ix_list
/-- isinstance(x, a built-in class), the answer by a table -/
def rIsi2 (K : PySem.W.Frag) : List V → Hp → VK → Prop := fun xs H Q => ∃ (x : V) (t c : String) (b : Bool), xs = [x, .ty c] ∧ TyX K H x (.type t) ∧ kitB t c = some b ∧ Q (.bl b) H
theorem call_isi2 : CallR X (.builtin "isinstance") (rIsi2 X.K) := by
  intro pins s σ H xs us Q I r h
  obtain ⟨x, t, c, b, rfl, ty, hk, q⟩ := h
  exact call_isi pins s σ H _ us Q I r ⟨x, .ty c, .type t, .type c, b, rfl, .ty _, ty, kit_ty hk, q⟩
theorem callK_isi (K : PySem.W.Frag) (h : X.K = K) : CallR X (.builtin "isinstance") (rIsi2 K) := by subst h; exact call_isi2
theorem callK_len_seq (K : PySem.W.Frag) (h : X.K = K) : CallR X (.builtin "len") (fun xs H Q => ∃ p ys, xs = [.ref p] ∧ (SqL K H p ys ∨ SqT K H p ys) ∧ Q (.int ys.length) H) := by subst h; exact call_len_seq
theorem callK_len (K : PySem.W.Frag) (h : X.K = K) : CallR X (.builtin "len") (fun xs H Q => ∃ x n, xs = [x] ∧ LenV K x H n ∧ Q (.int n) H) := by subst h; exact call_len
theorem callK_tuple_of (K : PySem.W.Frag) (h : X.K = K) : CallR X (.type "tuple") (fun xs H Q => ∃ p ys, xs = [.ref p] ∧ ((SqL K H p ys ∧ ∀ l, H l = none → Q (.ref l) (upd H l (.tup ys))) ∨ (SqT K H p ys ∧ Q (.ref p) H))) := by subst h; exact call_tuple_of
end
/-- a while by ghosts -/
def whW {α : Type} (W : α → St → Hp → Prop) (μ : α → Nat) : Nat → St → Hp → Prop := fun m σ H => ∃ a, m = μ a ∧ W a σ H
def whN {α : Type} (W : α → St → Hp → Prop) (μ : α → Nat) (a : α) : St → Hp → Prop := fun σ' H' => ∃ a', μ a' < μ a ∧ W a' σ' H'
theorem whN_ok {α : Type} {W : α → St → Hp → Prop} {μ : α → Nat} {a : α} : ∀ σ' H', whN W μ a σ' H' → ∃ m', m' < μ a ∧ whW W μ m' σ' H' := fun _ _ ⟨a', l, w⟩ => ⟨μ a', l, a', rfl, w⟩
theorem wh {α : Type} {c : TT} {tb : TS} {D : Ends} {σ : St} {H : Hp} (W : α → St → Hp → Prop) (μ : α → Nat) (a : α) (h0 : W a σ H)
    (hs : ∀ a σ H, W a σ H → c σ H fun b H1 => if b = true then ∃ N : St → Hp → Prop, (∀ σ' H', N σ' H' → ∃ m', m' < μ a ∧ whW W μ m' σ' H') ∧ tb { D with nx := N, ct := N, bk := D.nx } σ H1 else D.nx σ H1) : tWhile c tb D σ H := by
  refine ⟨whW W μ, ⟨μ a, a, rfl, h0⟩, ?_⟩
  rintro m σ H ⟨a, rfl, w⟩
  exact hs a σ H w
theorem ifT {c A B : Prop} [Decidable c] (h : c) (a : A) : if c then A else B := by
  rw [if_pos h]
  exact a
theorem ifF {c A B : Prop} [Decidable c] (h : ¬ c) (b : B) : if c then A else B := by
  rw [if_neg h]
  exact b
/-- for c in a text -/
theorem for_str {x : Str} {g : TG} {tb : TS} {D : Ends} {σ : St} {H : Hp} (Pv : Nat → St → Hp → Prop) (h0 : Pv 0 σ H)
    (hs : ∀ i c σ H, x.cps[i]? = some c → Pv i σ H → g (.str ⟨#[c]⟩) σ H fun σ2 H2 => tb { D with nx := Pv (i + 1), ct := Pv (i + 1), bk := D.nx } σ2 H2) (hd : ∀ σ H, Pv x.cps.size σ H → D.nx σ H) :
    ∃ W : Nat → Nat → St → Hp → Prop, (∃ m, W 0 m σ H) ∧ ∀ i m σ H, W i m σ H →
      ((Its x).stop i H ∧ D.nx σ H) ∨ ((Its x).go i H ∧ ∃ N : St → Hp → Prop, (∀ σ' H', N σ' H' → ∃ m', m' < m ∧ W (i + 1) m' σ' H') ∧ ∀ v H', (Its x).yld i H v H' → g v σ H' fun σ2 H2 => tb { D with nx := N, ct := N, bk := D.nx } σ2 H2) := by
  refine ⟨fun i m σ H => m = x.cps.size - i ∧ i ≤ x.cps.size ∧ Pv i σ H, ⟨x.cps.size, by simp, Nat.zero_le _, h0⟩, ?_⟩
  rintro i m σ H ⟨rfl, hi, p⟩
  by_cases hlt : i < x.cps.size
  · refine .inr ⟨hlt, Pv (i + 1), fun σ' H' p' => ⟨x.cps.size - (i + 1), by omega, rfl, hlt, p'⟩, fun v H' y => ?_⟩
    obtain ⟨e, c, hc, ev⟩ := y
    subst e ev
    exact hs i c σ _ hc p
  · have e : i = x.cps.size := by omega
    subst e
    exact .inl ⟨Nat.le_refl _, hd σ H p⟩
/-! heaps: all but what stands at d is kept -/
def Keep (d : Addr) (H H' : Hp) : Prop := ∀ b o, b ≠ d → H b = some o → H' b = some o
theorem Keep.refl (d : Addr) (H : Hp) : Keep d H H := fun _ _ _ h => h
theorem Keep.trans {d : Addr} {H H1 H2 : Hp} (a : Keep d H H1) (b : Keep d H1 H2) : Keep d H H2 := fun c o n h => b c o n (a c o n h)
theorem Same.keep {d : Addr} {H H' : Hp} (a : Same H H') : Keep d H H' := fun b o _ h => a b o h
theorem Same.upd {H : Hp} {p : Addr} {o : HO} (h : H p = none) : Same H (upd H p o) := fun b u e => by
  rw [upd_ne (ne_of_none e h)]
  exact e
theorem Keep.upd {d : Addr} {H : Hp} {o : HO} : Keep d H (upd H d o) := fun b u n e => by
  rw [upd_ne n]
  exact e
theorem Keep.new {d p : Addr} {H : Hp} {o : HO} (h : H p = none) : Keep d H (L2.upd H p o) := (Same.upd h).keep
end L2

set_option Elab.async false
set_option linter.all false
set_option maxRecDepth 100000
set_option maxHeartbeats 4000000
/-! {a: b for a, b in d.items()}: a copy -/
namespace L2
open PySem PySem.Spec PyProof.Rows
theorem wipe2 {σ : St} {i j : Nat} {a b : Option V} (h : i ≠ j) : wipe (((wipe σ [i, j]).set i a).set j b) [i, j] = wipe σ [i, j] := by
  simp only [wipe]
  refine List.ext_getElem? fun n => ?_
  simp only [List.getElem?_set, List.length_set]
  by_cases h1 : i = n
  · subst h1
    simp
  · by_cases h2 : j = n
    · subst h2
      simp [h1]
    · simp [h1, h2]
theorem wipe2_i {σ : St} {i j : Nat} {a b : Option V} (h : i ≠ j) (hi : i < σ.length) : (((wipe σ [i, j]).set i a).set j b)[i]? = some a := by
  simp only [wipe, List.getElem?_set, List.length_set]
  simp [Ne.symm h, hi]
theorem wipe2_j {σ : St} {i j : Nat} {a b : Option V} (hj : j < σ.length) : (((wipe σ [i, j]).set i a).set j b)[j]? = some b := by
  simp only [wipe, List.getElem?_set, List.length_set]
  simp [hj]
theorem put_take {κ : Type} [DecidableEq κ] {m : List (κ × V)} {i : Nat} {k : κ} {v : V} (nd : (m.map (·.1)).Nodup) (e : m[i]? = some (k, v)) : putK (m.take i) k v = m.take (i + 1) := by
  obtain ⟨hi, e2⟩ := List.getElem?_eq_some_iff.mp e
  rw [putK_new, List.take_succ, e]
  · rfl
  · cases g : valV (m.take i) k with
    | none => rfl
    | some z =>
      exfalso
      unfold valV at g
      obtain ⟨p, hp, _⟩ := Option.map_eq_some_iff.mp g
      have hk : p.1 = k := by simpa using List.find?_some hp
      obtain ⟨j, hj, rfl⟩ := List.getElem_of_mem (List.mem_of_find?_eq_some hp)
      rw [List.length_take] at hj
      rw [List.getElem_take] at hk
      have z := (List.pairwise_iff_getElem.mp nd) j i (by rw [List.length_map]; omega) (by rw [List.length_map]; exact hi) (by omega)
      rw [List.getElem_map, List.getElem_map, hk, e2] at z
      exact z rfl
theorem copyT {K : PySem.W.Frag} {σ : St} {H : Hp} {Q : VK} {d : Addr} {m : List (List Key × V)} {td : TE} {i j : Nat} (hd : H d = some (.dT m)) (hz : m.length < sizeLine) (hi : i < σ.length) (hj : j < σ.length) (hij : i ≠ j)
    (ht : ∀ od (R : VK), R (.ref d) (upd H d (.frz od (.dT m))) → td σ (upd H d (.frz od (.dT m))) R) (h : ∀ D H', H D = none → Same H H' → H' D = some (.dT m) → Q (.ref D) H') :
    tLockE (tDcT (iItsT td) (gTup K 2 (gCons (gName i) (gCons (gName j) gNil))) (tVar i) (tVar j) [i, j]) σ H Q := by
  refine ⟨d, .dT m, hd, True.intro, fun od => ht od _ ⟨d, od, m, rfl, upd_same, fun nd D hD => ?_⟩⟩
  have Dd : D ≠ d := fun e => by rw [e, upd_same] at hD; cases hD
  have HD : H D = none := by rwa [upd_ne Dd] at hD
  refine ⟨fun n r Hn => r = m.length - n ∧ n ≤ m.length ∧ Hn D = some (.dT (m.take n)) ∧ Hn d = some (.frz od (.dT m)) ∧ ∀ b o, b ≠ d → H b = some o → Hn b = some o, ⟨m.length, by omega, Nat.zero_le _, ?_, ?_, fun b o nb e => ?_⟩, fun n r Hn w => ?_⟩
  · rw [upd_same]; rfl
  · rw [upd_ne (Ne.symm Dd), upd_same]
  · rw [upd_ne (ne_of_none e HD), upd_ne nb]; exact e
  · obtain ⟨rfl, hn, w1, w2, w3⟩ := w
    by_cases lt : n < m.length
    · refine .inr ⟨⟨w2, lt⟩, fun H' => n + 1 ≤ m.length ∧ H' D = some (.dT (m.take (n + 1))) ∧ H' d = some (.frz od (.dT m)) ∧ ∀ b o, b ≠ d → H b = some o → H' b = some o, fun H' nx => ⟨m.length - (n + 1), by omega, rfl, nx⟩, fun x H' y => ?_⟩
      obtain ⟨T, k, v, q, e, rfl, hq, hT, rfl⟩ := y
      have Tn : ∀ {b o}, Hn b = some o → b ≠ T := fun g e => by rw [e, hT] at g; cases g
      refine ⟨T, [.ref q, v], rfl, SqT.of upd_same, rfl, _, _, rfl, _, _, rfl, rfl, wipe2 hij, _, wipe2_i hij hi, _, wipe2_j hj, m.take n, k, q, rfl, ?_, ?_, by rw [List.length_take]; omega, ?_⟩
      · rw [upd_ne (Tn hq)]; exact hq
      · rw [upd_ne (Tn w1)]; exact w1
      · rw [put_take nd e]
        refine ⟨lt, upd_same, ?_, fun b o nb g => ?_⟩
        · rw [upd_ne (Ne.symm Dd), upd_ne (Tn w2)]; exact w2
        · rw [upd_ne (ne_of_none g HD), upd_ne (Tn (w3 b o nb g))]; exact w3 b o nb g
    · have e : n = m.length := by omega
      subst e
      rw [List.take_length] at w1
      refine .inl ⟨⟨w2, Nat.le_refl _⟩, w2, h D _ HD (fun b o g => ?_) ?_⟩
      · by_cases c : b = d
        · subst c; rw [upd_same, ← g, hd]
        · rw [upd_ne c]; exact w3 b o c g
      · rw [upd_ne Dd]; exact w1
end L2

set_option Elab.async false
set_option linter.all false
set_option maxRecDepth 100000
set_option maxHeartbeats 4000000
/-! enumerate(a tuple); a display of one pair whose key is a tuple -/
namespace L2
open PySem PySem.Spec PyProof.Rows
theorem meets_enumB {v : Value} {o : Obj} {G : Heap → Prop} (B : Begins v o G) :
    Meets (Builtin.«enumerate.__new__» ⟨[.type "enumerate", v], []⟩) (fun _ R s => G s.heap ∧
      R (.ok (.ret (.ref (s.heap.push o).objs.size))) { s with heap := (s.heap.push o).push { cls := .type "enumerate", data := .fields #[.none, .bool false, .ref s.heap.objs.size, rawInt 0, .none, .none] } }) :=
  .of_wp fun prog w A R s h => by
    obtain ⟨hp, g, d, tk, os⟩ := s
    obtain ⟨g0, h⟩ := h
    have sub := sub_enumerate
    have it : ∀ {A2 : Around} {E2 : Value → Shared → Prop} {Q2 : Value → Shared → Prop}, Q2 (.ref hp.objs.size) ⟨hp.push o, g, d, tk, os⟩ → wpAny (model prog w) A2 (pyIter v) Q2 E2 ⟨hp, g, d, tk, os⟩ :=
      fun q => B.iter prog w _ _ ⟨hp, g, d, tk, os⟩ _ g0 q
    wp_walk using it
    refine wpAny_stack_any fun st => wpAny_pure ?_
    split
    · rename_i c _ _ _ _ _
      cases (c == Value.type "enumerate") <;>
      · wp_walk using it
        exact ⟨_, rfl, h⟩
    · wp_walk using it
      exact ⟨_, rfl, h⟩
theorem call_enumB {prog : Program} {w : World} {A : Around} {E : Value → Shared → Prop} {s : Shared} {v : Value} {o : Obj} {G : Heap → Prop} {Q : Value → Shared → Prop} (B : Begins v o G) (g0 : G s.heap)
    (h : ∀ h', IsEnum h' (s.heap.objs.size + 1) s.heap.objs.size 0 .none → h'.get? s.heap.objs.size = some o → (∀ b u, s.heap.get? b = some u → h'.get? b = some u) → Q (.ref (s.heap.objs.size + 1)) { s with heap := h' }) :
    wpAny (model prog w) A (call (.type "enumerate") [v]) Q E s := by
  refine callType_new F.called_enumerate (by decide) (F.typeCall_enumerate_1 _) (F.newCall_enumerate_1 _) (fun obj => F.args_object_init_2 obj _) F.entry_enumerate_new (meets_enumB B) ⟨g0, ?_⟩
  have z : (s.heap.push o).objs.size = s.heap.objs.size + 1 := Heap.size_push ..
  show _ ∧ _
  rw [z]
  have en : IsEnum ((s.heap.push o).push { cls := .type "enumerate", data := .fields #[.none, .bool false, .ref s.heap.objs.size, rawInt 0, .none, .none] }) (s.heap.objs.size + 1) s.heap.objs.size 0 .none := by
    have q := Heap.get?_push_size (s.heap.push o) (o := { cls := .type "enumerate", data := .fields #[.none, .bool false, .ref s.heap.objs.size, rawInt 0, .none, .none] }) rfl
    rwa [z] at q
  exact ⟨⟨_, en, rfl⟩, h _ en (Heap.get?_push_of_some _ (Heap.get?_push_size _ B.free)) fun b u x => Heap.get?_push_of_some _ (Heap.get?_push_of_some _ x)⟩
/-- enumerate over the tuple at a -/
def IteT (K : PySem.W.Frag) (a : Addr) (xs : List V) : It :=
  ⟨fun i H => SqT K H a xs ∧ i < xs.length, fun i H v H' => ∃ T x, v = .ref T ∧ H T = none ∧ H' = upd H T (.tup [.int (i : Nat), x]) ∧ xs[i]? = some x, fun i H => SqT K H a xs ∧ i = xs.length⟩
theorem turn_enumT {P : Program} {w : World} {K : PySem.W.Frag} {elts : List Expr} {kk : Nat} {tpos : Pos} {xs : List V} {its : List Value} (a e it : Addr) (hne : e ≠ it) (hai : a ≠ it) (hae : a ≠ e) (rv : Vals xs its) :
    Turn P w K (.Tuple elts kk tpos) (IteT K a xs) [e, it] e (fun i h => (∃ old, IsEnum h e it ((i : Nat) : Int) old) ∧ h.IsTupleIter it a i) where
  mem := by simp
  obj := fun i h st b hb => by
    obtain ⟨⟨old, he⟩, o, ho, hc, hd⟩ := st
    rcases (by simpa using hb : b = e ∨ b = it) with z | z
    · rw [z]; exact ⟨_, he, fun v q => nomatch q⟩
    · rw [z]; exact ⟨o, ho, fun v q => by rw [hd] at q; cases q⟩
  keep := fun i h h' st k => let ⟨⟨old, he⟩, hi⟩ := st; ⟨⟨old, k e (by simp) _ he⟩, hi.at fun o q => k it (by simp) o q⟩
  item := by
    intro X eP ew eK hc i pins s σ H E I hf st hg
    subst eP ew eK
    obtain ⟨⟨old, he⟩, hit⟩ := st
    obtain ⟨hq, hi⟩ := hg
    obtain ⟨its2, r2, p, hz⟩ := I.tuple hq
    obtain ⟨u, hu, ru⟩ := r2.get (List.getElem?_eq_getElem hi)
    have el : e < s.heap.objs.size := Heap.lt_size he
    have il : it < s.heap.objs.size := by obtain ⟨_, q, _⟩ := hit; exact Heap.lt_size q
    have tl : a < s.heap.objs.size := by obtain ⟨_, q, _⟩ := p; exact Heap.lt_size q
    have hl := r2.length
    refine wpAny_pyNext_enum_itemD (Draws.tuple (A := X.A.in1) (show X.A.in1.handled = none from I.ok.hd hc) it a hai its2.toArray) he ⟨hit, p⟩ (by simp; omega) hne (by simp; exact ⟨hne, Ne.symm hae⟩) fun x h1 tk hx ho st1 hT hsz hk => ?_
    have ex : x = u := by
      have hx' : its2[i]? = some x := by simpa using hx
      rw [hu] at hx'
      exact (Option.some.inj hx').symm
    subst ex
    refine ⟨_, rfl, wpAny_letOwnedTupleGo_enum (s := { s with heap := h1, toks := tk + 1 }) ho fun h2 he2 sb => ?_⟩
    have hT2 := (sb.2 _ (Nat.ne_of_gt el)).trans hT
    have okT : ObjOk X.prog X.w (upd H s.heap.objs.size (.tup [.int (i : Nat), xs[i]])) h2 s.heap.objs.size (.tup [.int (i : Nat), xs[i]]) :=
      ⟨by show 2 ≤ sizeLine; decide, _, .cons ⟨_, rfl⟩ (.cons ru .nil), ⟨_, hT2, rfl, _, rfl⟩⟩
    have I1 : Inv X pins σ (upd H s.heap.objs.size (.tup [.int (i : Nat), xs[i]])) { s with heap := h2, toks := tk + 1 } :=
      I.turnedNew (ch := [e, it]) (fun b ob nb q => (sb.2 b (fun z => nb (by simp [z]))).trans (hk b ob (fun z => nb (by simp [z])) (fun z => nb (by simp [z])) q)) hf (Nat.le_refl _) okT
    refine ⟨.ref s.heap.objs.size, _, I1, rfl, ⟨_, _, rfl, I.hok.fresh (Nat.le_refl _), rfl, List.getElem?_eq_getElem hi⟩, ⟨⟨x, ?_⟩, st1.1.at fun o q => (sb.2 it (Ne.symm hne)).trans q⟩, fun b hb => ?_⟩
    · have e1 : ((i + 1 : Nat) : Int) = (i : Int) + 1 := by omega
      rw [e1]; exact he2
    · have lb : b < s.heap.objs.size := by
        rcases (by simpa using hb : b = e ∨ b = it) with z | z <;> rw [z] <;> assumption
      rw [upd_ne (Nat.ne_of_lt lb)]
      exact (hf b hb).1
  done := by
    intro X eP ew eK hc i pins s σ H E I hf st hg
    subst eP ew eK
    obtain ⟨⟨old, he⟩, hit⟩ := st
    obtain ⟨hq, hi⟩ := hg
    obtain ⟨its2, r2, p, hz⟩ := I.tuple hq
    obtain ⟨g0, g1, g2, g3, g4, g5⟩ := hf it (by simp)
    have hl := r2.length
    have ei : its2.toArray.size = i := by simp; omega
    exact wpAny_pyNext_enum_endD (Draws.tuple (A := X.A.in1) (show X.A.in1.handled = none from I.ok.hd hc) it a hai its2.toArray) he (by rw [ei]; exact ⟨hit, p⟩) fun h1 eb => ⟨rfl, I.turned (t' := s.toks) (fun b ob nb q => eb b ob nb q) g0 g1 g3 g4 g5⟩
  self := fun A i s Q E st h => let ⟨⟨_, he⟩, _⟩ := st; wpAny_pyIter_enum he h
/-- for .. in enumerate(e), e a tuple -/
def iEnumT (K : PySem.W.Frag) (ta : TA) : TI := fun σ H R => ta σ H fun vs H1 => ∃ a xs, vs = [.ref a] ∧ SqT K H1 a xs ∧ R (IteT K a xs) H1
theorem pi_enumT {X : Cx} {e : Expr} {ta : TA} {p pos tpos : Pos} {elts : List Expr} {kk : Nat} (hg : Gl X "enumerate") (hm : X.mg "enumerate" = none) (ha : PA X [e] ta) (hs : starEach [e] X.env = [(false, eval e X.env)] := by rfl) :
    PI X (.Tuple elts kk tpos) (.Call (.Name "enumerate" p) [e] [] pos) (iEnumT X.K ta) := by
  refine ⟨fun pins s σ H R I h => Call_ (ld_blt I hg hm boot_enumerate (PyProof.Rows.callWith_type1 (thn (ha.run pos pins s σ H _ I h) fun us s1 g => ?_) hs rfl))⟩
  obtain ⟨vs, H1, I1, r1, a, xs, rfl, hq, q⟩ := g
  obtain ⟨u, rfl, ru⟩ := vals1 r1
  obtain rfl : u = Value.ref a := ru
  obtain ⟨its, rv, p', hz⟩ := I1.tuple hq
  have la : a < s1.heap.objs.size := by obtain ⟨_, g, _⟩ := p'; exact Heap.lt_size g
  refine call_enumB (begins_tuple a its.toArray) p' fun h1 en it kp => wpAny_pyIter_enum en ?_
  have I2 : Inv X pins σ H1 { s1 with heap := h1 } := I1.kept (t' := s1.toks) kp
  refine ⟨s1.heap.objs.size + 1, [s1.heap.objs.size + 1, s1.heap.objs.size], _, _, H1, rfl, I2, turn_enumT a (s1.heap.objs.size + 1) s1.heap.objs.size (Nat.succ_ne_self _) (Nat.ne_of_lt la) (Nat.ne_of_lt (Nat.lt_succ_of_lt la)) rv, ⟨⟨.none, en⟩, ⟨_, it, rfl, rfl⟩⟩, fun b hb => ?_, q⟩
  have le : s1.heap.objs.size ≤ b := by
    rcases (by simpa using hb : b = s1.heap.objs.size + 1 ∨ b = s1.heap.objs.size) with z | z <;> rw [z] <;> omega
  exact I1.fpOk le (I1.hok.fresh le)
theorem walk_enumT {K : PySem.W.Frag} {a : Addr} {xs : List V} : Walk (IteT K a xs) xs.length (fun H => SqT K H a xs) (YPair (fun i => some (.int (i : Nat))) (fun i => xs[i]?)) :=
  ⟨fun i H hi q => ⟨q, hi⟩, fun H q => ⟨q, rfl⟩, fun i H x H' hi q y => let ⟨T, v, e1, e2, e3, e4⟩ := y; ⟨T, _, v, e1, e2, e3, rfl, e4⟩⟩
/-- {k: v}, k a tuple -/
def tDispT (tk tv : TE) : TE := fun σ H Q => ∀ p, H p = none → tk σ (upd H p (.dT [])) fun x H1 => tv σ H1 fun y H2 => ∃ k b, x = .ref b ∧ H2 b = some (.tup (k.map kV)) ∧ H2 p = some (.dT []) ∧ Q (.ref p) (upd H2 p (.dT [(k, y)]))
theorem pe_dispT {X : Cx} {k v : Expr} {pos : Pos} {tk tv : TE} (hu : X.A.units + 1 < cLine) (hk : PE X k tk) (hv : PE X v tv) : PE X (.Dict [some k] [v] pos) (tDispT tk tv) := by
  refine ⟨fun pins s σ H Q I q => ?_⟩
  have hn := I.hok.fresh (Nat.le_refl s.heap.objs.size)
  have I1 := I.laid (a := s.heap.objs.size) (o := .dT []) (h' := s.heap.push { cls := .type "dict", data := .dict #[] }) (t' := s.toks) (fun _ _ g => Heap.get?_push_of_some _ g) (Nat.le_refl _) (dt_empty s.heap I.big)
  refine wpAny_Dict_any rfl rfl (by simp) (by simp) (pairTrees_cons_walk (thn (hk.run pins _ σ _ _ I1 (q _ hn)) fun u s1 g => ?_))
  obtain ⟨x, H1, I2, rx, g⟩ := g
  refine thn (hv.run pins s1 σ H1 _ I2 g) fun w s2 g => ?_
  obtain ⟨y, H2, I3, ry, ks, b, rfl, hb, hp, g⟩ := g
  refine pairTrees_nil_walk ?_
  unfold storeAll
  rw [List.forIn_cons]
  refine wpAny_bind (wpAny_bind (put_dT (m := []) hu I3 hp hb (by show 0 < sizeLine; decide) rx ry fun s3 I4 => wpAny_pure ?_))
  exact wpAny_pure ⟨.ref s.heap.objs.size, _, I4, rfl, g⟩
end L2

set_option Elab.async false
set_option linter.all false
set_option maxRecDepth 100000
set_option maxHeartbeats 4000000
/-! data of numbers, texts, None and tuples, in the heap -/
namespace Toy
open PySem L2
inductive Da where
  | non | int (i : Int) | str (x : Str) | tup (l : List Da)
mutual
inductive DV (H : Hp) : V → Da → Prop
  | non : DV H .non .non
  | int (i : Int) : DV H (.int i) (.int i)
  | str (x : Str) : DV H (.str x) (.str x)
  | tup {a : Addr} {vs : List V} {l : List Da} : H a = some (.tup vs) → DVs H vs l → DV H (.ref a) (.tup l)
inductive DVs (H : Hp) : List V → List Da → Prop
  | nil : DVs H [] []
  | cons {v : V} {p : Da} {vs : List V} {l : List Da} : DV H v p → DVs H vs l → DVs H (v :: vs) (p :: l)
end
/-- tuples stay -/
def Tups (H H' : Hp) : Prop := ∀ b xs, H b = some (.tup xs) → H' b = some (.tup xs)
theorem Tups.refl {H : Hp} : Tups H H := fun _ _ e => e
theorem Tups.trans {H H' H2 : Hp} (a : Tups H H') (b : Tups H' H2) : Tups H H2 := fun c xs e => b c xs (a c xs e)
theorem same_tp {H H' : Hp} (s : Same H H') : Tups H H' := fun b xs e => s b _ e
theorem tups_new {H : Hp} {p : Addr} {o : HO} (h : H p = none) : Tups H (L2.upd H p o) := same_tp (L2.Same.upd h)
theorem tups_upd {H : Hp} {p : Addr} {o : HO} (h : ∀ xs, H p ≠ some (.tup xs)) : Tups H (L2.upd H p o) := fun b xs e => by
  rw [upd_ne (fun z => h xs (by rw [← z]; exact e))]; exact e
mutual
theorem DV.mono {H H' : Hp} (k : Tups H H') : ∀ {v : V} {p : Da}, DV H v p → DV H' v p
  | _, _, .non => .non
  | _, _, .int i => .int i
  | _, _, .str s => .str s
  | _, _, .tup e h => .tup (k _ _ e) (DVs.mono k h)
theorem DVs.mono {H H' : Hp} (k : Tups H H') : ∀ {vs : List V} {l : List Da}, DVs H vs l → DVs H' vs l
  | _, _, .nil => .nil
  | _, _, .cons a b => .cons (DV.mono k a) (DVs.mono k b)
end
theorem DVs.get {H : Hp} : ∀ {vs : List V} {l : List Da} {i : Nat} {v : V}, DVs H vs l → vs[i]? = some v → ∃ p, l[i]? = some p ∧ DV H v p
  | _, _, i, _, .nil, e => by simp at e
  | _, _, 0, _, .cons a _, e => by simp at e; subst e; exact ⟨_, rfl, a⟩
  | _, _, i + 1, _, .cons _ b, e => by
    obtain ⟨p, e1, e2⟩ := DVs.get b (i := i) (by simpa using e)
    exact ⟨p, by simpa using e1, e2⟩
theorem DVs.at {H : Hp} : ∀ {vs : List V} {l : List Da} {i : Nat} {p : Da}, DVs H vs l → l[i]? = some p → ∃ v, vs[i]? = some v ∧ DV H v p
  | _, _, i, _, .nil, e => by simp at e
  | _, _, 0, _, .cons a _, e => by simp at e; subst e; exact ⟨_, rfl, a⟩
  | _, _, i + 1, _, .cons _ b, e => by
    obtain ⟨p, e1, e2⟩ := DVs.at b (i := i) (by simpa using e)
    exact ⟨p, by simpa using e1, e2⟩
theorem DVs.length {H : Hp} : ∀ {vs : List V} {l : List Da}, DVs H vs l → vs.length = l.length
  | _, _, .nil => rfl
  | _, _, .cons _ b => by simp [DVs.length b]
theorem DVs.append {H : Hp} : ∀ {vs us : List V} {l m : List Da}, DVs H vs l → DVs H us m → DVs H (vs ++ us) (l ++ m)
  | _, _, _, _, .nil, h => h
  | _, _, _, _, .cons a b, h => .cons a (DVs.append b h)
theorem DVs.snoc {H : Hp} {v : V} {p : Da} {vs : List V} {l : List Da} (h : DVs H vs l) (g : DV H v p) : DVs H (vs ++ [v]) (l ++ [p]) := h.append (.cons g .nil)
theorem DVs.take {H : Hp} : ∀ (n : Nat) {vs : List V} {l : List Da}, DVs H vs l → DVs H (vs.take n) (l.take n)
  | 0, _, _, _ => .nil
  | n + 1, _, _, .nil => .nil
  | n + 1, _, _, .cons a b => .cons a (DVs.take n b)
theorem DVs.drop {H : Hp} : ∀ (n : Nat) {vs : List V} {l : List Da}, DVs H vs l → DVs H (vs.drop n) (l.drop n)
  | 0, _, _, h => h
  | n + 1, _, _, .nil => .nil
  | n + 1, _, _, .cons a b => DVs.drop n b
theorem DVs.of_get {H : Hp} : ∀ {vs : List V} {l : List Da}, vs.length = l.length → (∀ (i : Nat) (v : V) (p : Da), vs[i]? = some v → l[i]? = some p → DV H v p) → DVs H vs l
  | [], [], _, _ => .nil
  | [], _ :: _, e, _ => by simp at e
  | _ :: _, [], e, _ => by simp at e
  | v :: vs, p :: l, e, h => .cons (h 0 v p rfl rfl) (DVs.of_get (by simpa using e) fun i v p a b => h (i + 1) v p (by simpa using a) (by simpa using b))
theorem DV.inv {H : Hp} {v : V} {l : List Da} (h : DV H v (.tup l)) : ∃ a vs, v = .ref a ∧ H a = some (.tup vs) ∧ DVs H vs l := by
  cases h with | tup e g => exact ⟨_, _, rfl, e, g⟩
/-- a word -/
def wd (w : List Nat) : Da := .tup (w.map fun c : Nat => Da.int (c : Int))
theorem ints_dvs {H : Hp} : ∀ {vs : List V} {w : List Nat}, DVs H vs (w.map fun c : Nat => Da.int (c : Int)) → vs = w.map fun c : Nat => V.int (c : Int)
  | vs, [], h => by cases h; rfl
  | vs, c :: w, h => by
    cases h with
    | cons a b => cases a; rw [ints_dvs b]; rfl
theorem dvs_ints {H : Hp} : ∀ w : List Nat, DVs H (w.map fun c : Nat => V.int (c : Int)) (w.map fun c : Nat => Da.int (c : Int))
  | [] => .nil
  | c :: w => .cons (.int _) (dvs_ints w)
theorem DV.word {H : Hp} {v : V} {w : List Nat} (h : DV H v (wd w)) : ∃ a, v = .ref a ∧ H a = some (.tup (w.map fun c : Nat => V.int (c : Int))) := by
  obtain ⟨a, vs, rfl, e, g⟩ := h.inv
  rw [ints_dvs g] at e
  exact ⟨a, rfl, e⟩
theorem DV.of_word {H : Hp} {a : Addr} {w : List Nat} (e : H a = some (.tup (w.map fun c : Nat => V.int (c : Int)))) : DV H (.ref a) (wd w) := .tup e (dvs_ints w)
theorem wd_inj {w u : List Nat} (h : wd w = wd u) : w = u := by
  unfold wd at h
  injection h with h
  exact (List.map_inj_right (fun a b e => by injection e with e; omega)).mp h
/-! equality -/
mutual
def Da.py : Da → PyData
  | .non => .none
  | .int i => .int i
  | .str x => .str x
  | .tup l => .tuple (Da.pys l)
def Da.pys : List Da → List PyData
  | [] => []
  | p :: r => p.py :: Da.pys r
end
mutual
def Da.deep : Da → Nat
  | .tup l => Da.deeps l + 1
  | _ => 0
def Da.deeps : List Da → Nat
  | [] => 0
  | p :: r => max p.deep (Da.deeps r)
end
mutual
theorem DV.dp {K : PySem.W.Frag} {H : Hp} : ∀ {v : V} {p : Da}, DV H v p → Dp K H v p.py
  | _, _, .non => .non
  | _, _, .int i => .int i
  | _, _, .str s => .str s
  | _, _, .tup e h => .tup (SqT.of e) (DVs.dp h)
theorem DVs.dp {K : PySem.W.Frag} {H : Hp} : ∀ {vs : List V} {l : List Da}, DVs H vs l → DpAll K H vs (Da.pys l)
  | _, _, .nil => .nil
  | _, _, .cons a b => .cons (DV.dp a) (DVs.dp b)
end
mutual
theorem Da.plain : ∀ p : Da, p.py.plain = true
  | .non => by simp [Da.py, PyData.plain]
  | .int i => by simp [Da.py, PyData.plain]
  | .str x => by simp [Da.py, PyData.plain]
  | .tup l => by simp only [Da.py, PyData.plain]; exact Da.plains l
theorem Da.plains : ∀ l : List Da, PyData.plainAll (Da.pys l) = true
  | [] => by simp [Da.pys, PyData.plainAll]
  | p :: r => by simp only [Da.pys, PyData.plainAll, Bool.and_eq_true]; exact ⟨Da.plain p, Da.plains r⟩
end
mutual
theorem Da.dep : ∀ p : Da, p.py.depth ≤ p.deep
  | .non => by simp [Da.py, PyData.depth]
  | .int i => by simp [Da.py, PyData.depth]
  | .str x => by simp [Da.py, PyData.depth]
  | .tup l => by simp only [Da.py, PyData.depth, Da.deep]; have := Da.deps l; omega
theorem Da.deps : ∀ l : List Da, PyData.depthAll (Da.pys l) ≤ Da.deeps l
  | [] => by simp [Da.pys, PyData.depthAll]
  | p :: r => by simp only [Da.pys, PyData.depthAll, Da.deeps]; have := Da.dep p; have := Da.deps r; omega
end
mutual
theorem Da.eqv : ∀ p q : Da, PyData.eqv p.py q.py = true ↔ p = q
  | .non, q => by cases q <;> simp [Da.py, PyData.eqv]
  | .int i, q => by cases q <;> simp [Da.py, PyData.eqv]
  | .str x, q => by cases q <;> simp [Da.py, PyData.eqv]
  | .tup l, q => by
    cases q with
    | tup m => simp only [Da.py, PyData.eqv, Da.tup.injEq]; exact Da.eqvs l m
    | non => simp [Da.py, PyData.eqv]
    | int i => simp [Da.py, PyData.eqv]
    | str x => simp [Da.py, PyData.eqv]
theorem Da.eqvs : ∀ l m : List Da, PyData.eqvAll (Da.pys l) (Da.pys m) = true ↔ l = m
  | [], m => by cases m <;> simp [Da.pys, PyData.eqvAll]
  | p :: r, m => by
    cases m with
    | nil => simp [Da.pys, PyData.eqvAll]
    | cons q s => simp only [Da.pys, PyData.eqvAll, Bool.and_eq_true, List.cons.injEq]; rw [Da.eqv p q, Da.eqvs r s]
end
theorem pys_any (p : Da) : ∀ l : List Da, ((Da.pys l).any fun y => PyData.eqv y p.py) = true ↔ p ∈ l
  | [] => by simp [Da.pys]
  | q :: r => by
    simp only [Da.pys, List.any_cons, Bool.or_eq_true, List.mem_cons]
    rw [Da.eqv q p, pys_any p r]
    exact ⟨fun h => h.imp Eq.symm id, fun h => h.imp Eq.symm id⟩
end Toy
namespace Toy
open PySem L2 PyProof.Rows PySem.SeqAt
section
variable {X : Cx}
/-- x == y of data -/
def rEqA (K : PySem.W.Frag) : R2 := fun x y H Q => ∃ p q, DV H x p ∧ DV H y q ∧ p.deep ≤ 90 ∧ ∀ b : Bool, (b = true ↔ p = q) → Q (.bl b) H
theorem op_eqA (hu : X.A.units + 100 < cLine) : OpR X (compareOp .Eq) (rEqA X.K) := by
  intro pins s σ H x y v u Q I rx ry h
  obtain ⟨p, q, hp, hq, hd, k⟩ := h
  obtain ⟨as, r1⟩ := Dp.reads I p.py x v hp.dp rx
  obtain ⟨bs, r2⟩ := Dp.reads I q.py y u hq.dp ry
  refine eq_plain r1 r2 p.plain q.plain ?_ ⟨.bl _, H, I, rfl, k _ (Da.eqv p q)⟩
  have := p.dep
  omega
def rNeA (K : PySem.W.Frag) : R2 := fun x y H Q => ∃ p q, DV H x p ∧ DV H y q ∧ p.deep ≤ 90 ∧ ∀ b : Bool, (b = true ↔ p ≠ q) → Q (.bl b) H
theorem op_neA (hu : X.A.units + 100 < cLine) : OpR X (compareOp .NotEq) (rNeA X.K) := by
  intro pins s σ H x y v u Q I rx ry h
  obtain ⟨p, q, hp, hq, hd, k⟩ := h
  obtain ⟨as, r1⟩ := Dp.reads I p.py x v hp.dp rx
  obtain ⟨bs, r2⟩ := Dp.reads I q.py y u hq.dp ry
  refine ne_plain r1 r2 p.plain q.plain ?_ ⟨.bl _, H, I, rfl, k _ ?_⟩
  · have := p.dep
    omega
  · rw [Bool.not_eq_true', Bool.eq_false_iff, ne_eq, ne_eq, Da.eqv p q]
/-- x in y, y a tuple or a list of data -/
def rInA (K : PySem.W.Frag) : R2 := fun x y H Q => ∃ p a xs l, DV H x p ∧ y = .ref a ∧ (H a = some (.tup xs) ∨ H a = some (.lst xs)) ∧ DVs H xs l ∧ p.deep ≤ 90 ∧ ∀ b : Bool, (b = true ↔ p ∈ l) → Q (.bl b) H
theorem op_inA (hu : X.A.units + 100 < cLine) : OpR X (compareOp .In) (rInA X.K) := by
  intro pins s σ H x y v u Q I rx ry h
  obtain ⟨p, a, xs, l, hp, rfl, ha, hl, hd, k⟩ := h
  obtain ⟨as, r1⟩ := Dp.reads I p.py x v hp.dp rx
  have g : X.A.units + 1 + min (PyData.depthAll (Da.pys l)) p.py.depth < cLine := by
    have := p.dep
    omega
  rcases ha with e | e
  · obtain ⟨bs, r2⟩ := Dp.reads I (.tuple (Da.pys l)) (.ref a) u (.tup (SqT.of e) hl.dp) ry
    exact in_tuple_data r2 r1 (Da.plains l) p.plain g ⟨.bl _, H, I, rfl, k _ (pys_any p l)⟩
  · obtain ⟨bs, r2⟩ := Dp.reads I (.list (Da.pys l)) (.ref a) u (.lst (SqL.of e) hl.dp) ry
    exact in_list_data r2 r1 (Da.plains l) p.plain g ⟨.bl _, H, I, rfl, k _ (pys_any p l)⟩
def rNiA (K : PySem.W.Frag) : R2 := fun x y H Q => ∃ p a xs l, DV H x p ∧ y = .ref a ∧ (H a = some (.tup xs) ∨ H a = some (.lst xs)) ∧ DVs H xs l ∧ p.deep ≤ 90 ∧ ∀ b : Bool, (b = true ↔ p ∉ l) → Q (.bl b) H
theorem op_niA (hu : X.A.units + 100 < cLine) : OpR X (compareOp .NotIn) (rNiA X.K) := by
  intro pins s σ H x y v u Q I rx ry h
  obtain ⟨p, a, xs, l, hp, rfl, ha, hl, hd, k⟩ := h
  obtain ⟨as, r1⟩ := Dp.reads I p.py x v hp.dp rx
  have g : X.A.units + 1 + min (PyData.depthAll (Da.pys l)) p.py.depth < cLine := by
    have := p.dep
    omega
  have z : (!(Da.pys l).any fun y => PyData.eqv y p.py) = true ↔ p ∉ l := by
    rw [Bool.not_eq_true', Bool.eq_false_iff, ne_eq, pys_any p l]
  rcases ha with e | e
  · obtain ⟨bs, r2⟩ := Dp.reads I (.tuple (Da.pys l)) (.ref a) u (.tup (SqT.of e) hl.dp) ry
    exact notIn_tuple_data r2 r1 (Da.plains l) p.plain g ⟨.bl _, H, I, rfl, k _ z⟩
  · obtain ⟨bs, r2⟩ := Dp.reads I (.list (Da.pys l)) (.ref a) u (.lst (SqL.of e) hl.dp) ry
    exact notIn_list_data r2 r1 (Da.plains l) p.plain g ⟨.bl _, H, I, rfl, k _ z⟩
end
end Toy

set_option Elab.async false
set_option linter.all false
set_option maxRecDepth 100000
set_option maxHeartbeats 4000000
namespace L2
open PySem PySem.Spec PyProof.Rows
theorem cutV_all {xs : List V} {lo hi : Option Int} (h : HT.sIx xs.length 0 lo = 0 ∧ HT.sIx xs.length xs.length hi = xs.length) : cutV xs lo hi = xs := by
  unfold cutV
  rw [h.1, h.2]
  simp
theorem cutV_to {xs : List V} (n : Nat) : cutV xs none (some (n : Int)) = xs.take n := by
  unfold cutV
  rw [HT.sIx_none, HT.sIx_nat, List.drop_zero, Nat.sub_zero, List.take_eq_take_iff]
  omega
theorem cutV_last {xs : List V} : cutV xs none (some (-1)) = xs.dropLast := by
  unfold cutV HT.sIx
  simp
  rw [List.dropLast_eq_take, List.take_eq_take_iff]
  omega
theorem cutV_from {xs : List V} (n : Nat) : cutV xs (some (n : Int)) none = xs.drop n := by
  unfold cutV
  rw [HT.sIx_none, HT.sIx_nat]
  by_cases h : n ≤ xs.length
  · rw [Nat.min_eq_left h, List.take_of_length_le (by rw [List.length_drop]; omega)]
  · rw [Nat.min_eq_right (by omega), List.drop_of_length_le (Nat.le_refl _), List.drop_of_length_le (by omega)]
    simp
/-- t[lo:hi] of a tuple in the heap -/
def rSlTu : V → Option Int → Option Int → Hp → VK → Prop := fun x lo hi H Q => ∃ a xs, x = .ref a ∧ H a = some (.tup xs) ∧ ∀ p H', Same H H' → H' p = some (.tup (cutV xs lo hi)) → Q (.ref p) H'
theorem sl_tupB {X : Cx} : SlR X rSlTu := by
  intro pins s σ H x v vl vu lo hi sl Q I rx hs pl pu h
  obtain ⟨a, xs, rfl, hx, q⟩ := h
  refine sl_tupA pins s σ H _ v vl vu lo hi sl Q I rx hs pl pu ⟨a, xs, rfl, SqT.of hx, fun w => q a H (Same.refl H) (by rw [cutV_all w]; exact hx), fun _ p hp => q p _ (Same.upd hp) upd_same⟩
/-- t + u of tuples in the heap -/
def rCatB : R2 := fun x y H Q => ∃ a b xs ys, x = .ref a ∧ y = .ref b ∧ H a = some (.tup xs) ∧ H b = some (.tup ys) ∧ xs.length + ys.length ≤ sizeLine ∧ ∀ p H', Same H H' → H' p = some (.tup (xs ++ ys)) → Q (.ref p) H'
theorem op_catB {X : Cx} : OpR X (binaryOp .Add) rCatB := by
  intro pins s σ H x y v u Q I rx ry h
  obtain ⟨a, b, xs, ys, rfl, rfl, ha, hb, hz, q⟩ := h
  refine op_catA pins s σ H _ _ v u Q I rx ry ⟨a, b, xs, ys, rfl, rfl, SqT.of ha, SqT.of hb, hz, fun e => q b H (Same.refl H) (by rw [e]; exact hb), fun _ e => q a H (Same.refl H) (by rw [e, List.append_nil]; exact ha), fun _ _ p hp => q p _ (Same.upd hp) upd_same⟩
end L2

set_option Elab.async false
set_option linter.all false
set_option maxRecDepth 100000
set_option maxHeartbeats 4000000
namespace Toy
open PySem L2
def top (i : Nat) : Stmt := PySem.Challenge.pw_formatory_k82_barring_judged.main.body.getD i (.Pass ⟨0, 0, 0, 0⟩)
theorem b_sorted : bootBuiltins "sorted" = some (.builtin "sorted") := by decide +kernel
theorem b_max : bootBuiltins "max" = some (.builtin "max") := by decide +kernel
theorem b_min : bootBuiltins "min" = some (.builtin "min") := by decide +kernel
theorem b_dict : bootBuiltins "dict" = some (.type "dict") := by decide +kernel
theorem hu_a {k : Nat} {A : Around} (hr : Room k A) : A.units + 100 < cLine := by have := hr.un; omega
theorem hu_b {k : Nat} {A : Around} (hr : Room k A) : A.units + 1 < cLine := by have := hr.un; omega
theorem hu_c {k : Nat} {A : Around} (hr : Room k A) : A.units + 4 < cLine := by have := hr.un; omega
theorem hu_d {k : Nat} {A : Around} (hr : Room k A) : A.units + 2 < cLine := by have := hr.un; omega
structure Txt (K : PySem.W.Frag) (mg : Str → Option Value) (CR : Addr) : Prop where
  z_len : mg "len" = none
  z_isinstance : mg "isinstance" = none
  z_int : mg "int" = none
  z_bool : mg "bool" = none
  z_tuple : mg "tuple" = none
  z_list : mg "list" = none
  z_range : mg "range" = none
  z_sorted : mg "sorted" = none
  z_enumerate : mg "enumerate" = none
  z_max : mg "max" = none
  z_min : mg "min" = none
  z_dict : mg "dict" = none
  z_abs : mg "abs" = none
  cl : Cls K CR
  nG : NoAttr K CR "given"
  nL : NoAttr K CR "links"
  nU : NoAttr K CR "used"
  nR : NoAttr K CR "right_at"
  nW : NoAttr K CR "wrong_at"
def spIsInt : Sp := fun vs H Q _ => ∃ i : Int, vs = [.int i] ∧ Q (.bl true) H
/-- is_cells at base 2 -/
def spCells : Sp := fun vs H Q _ => ∃ v w, vs = [v, .int 2] ∧ DV H v (wd w) ∧ ∀ b : Bool, (b = true ↔ ∀ c ∈ w, c < 2) → Q (.bl b) H
def spWholes : Sp := fun vs H Q _ => ∃ v w, vs = [v] ∧ DV H v (wd w) ∧ Q (.bl true) H
/-- a row of a watcher of base 2 -/
abbrev Rw := Nat × Nat × Nat
def rwD (r : Rw) : Da := .tup [.int (r.1 : Int), wd [r.2.1, r.2.2]]
def rwsD (l : List Rw) : Da := .tup (l.map rwD)
def spRows : Sp := fun vs H Q _ => ∃ v l, vs = [v, .int 2] ∧ DV H v (rwsD l) ∧ Q (.bl true) H
def goRw (l : List Rw) (n c : Nat) : Nat := if c = 0 then (l.getD n (0, 0, 0)).2.1 else (l.getD n (0, 0, 0)).2.2
def okRw (l : List Rw) : Prop := ∀ r ∈ l, r.2.1 < l.length ∧ r.2.2 < l.length
def walkRw (l : List Rw) : Nat → List Nat → Nat
  | n, [] => n
  | n, c :: w => walkRw l (goRw l n c) w
def spWalk : Sp := fun vs H Q _ => ∃ v u l n w, vs = [v, .int ((n : Nat) : Int), u] ∧ DV H v (rwsD l) ∧ DV H u (wd w) ∧ (∀ c ∈ w, c < 2) ∧ okRw l ∧ n < l.length ∧ Q (.int ((walkRw l n w : Nat) : Int)) H
theorem row_at {H : Hp} {us : List V} {l : List Rw} {m : Nat} (h : DVs H us (l.map rwD)) (hm : m < l.length) : ∃ q b, us[m]? = some (.ref q) ∧ H q = some (.tup [.int ((l.getD m (0, 0, 0)).1 : Int), .ref b]) ∧ H b = some (.tup [.int ((l.getD m (0, 0, 0)).2.1 : Int), .int ((l.getD m (0, 0, 0)).2.2 : Int)]) := by
  have e : l[m]? = some (l.getD m (0, 0, 0)) := by rw [List.getD_eq_getElem?_getD, List.getElem?_eq_getElem hm]; rfl
  obtain ⟨v, hv, d⟩ := h.at (p := rwD (l.getD m (0, 0, 0))) (by rw [List.getElem?_map, e]; rfl)
  obtain ⟨q, ys, rfl, hq, hys⟩ := d.inv
  cases hys with
  | cons h1 h2 =>
    cases h2 with
    | cons h3 h4 =>
      cases h4
      cases h1
      obtain ⟨b, rfl, hb⟩ := h3.word
      exact ⟨q, b, hv, hq, hb⟩
section
variable {P : Program} {w : World} {K : PySem.W.Frag} {mg : Str → Option Value} {base : Heap} {CR : Addr}
abbrev s_is_whole : Stmt := top 2
theorem sc_is_whole : FnScope ["thing"] ["thing"] (defScope s_is_whole) := ⟨rfl, rfl, rfl, by decide +kernel, rfl, by decide +kernel, by decide +kernel⟩

theorem ok_is_int {f : Addr} {fd : FuncData} (F : Fun K "is_whole" "is_whole" s_is_whole f fd) (T : Txt K mg CR) : FnOk P w K mg base CX0 1 f fd ["thing"] spIsInt := by
  refine F.ok sc_is_whole (fun vs H Q E h => ?_) (fun cdv A outer s H vs Q E hr h => ?_)
  · obtain ⟨i, rfl, _⟩ := h
    rfl
  obtain ⟨i, rfl, k⟩ := h
  refine ⟨_, (pss_one (ps_ret (pe_and (pe_callB call_isi2 (by rfl) T.z_isinstance b_isinstance (pa_cons (pv 0) (pa_cons (pe_bltn (v := .ty "int") (by rfl) T.z_int b_int rfl) pa_nil))) (pe_one (pe_not (pe_callB call_isi2 (by rfl) T.z_isinstance b_isinstance (pa_cons (pv 0) (pa_cons (pe_bltn (v := .ty "bool") (by rfl) T.z_bool b_bool rfl) pa_nil)))))))), ?_⟩
  refine ⟨_, rfl, _, _, _, true, rfl, .base (.int i), by decide +kernel, _, rfl, ifT rfl ?_⟩
  exact ⟨_, rfl, _, _, _, false, rfl, .base (.int i), by decide +kernel, _, rfl, k⟩
abbrev s_is_cells : Stmt := top 3
theorem sc_is_cells : FnScope ["thing", "base", "cell"] ["thing", "base"] (defScope s_is_cells) := ⟨rfl, rfl, rfl, by decide +kernel, rfl, by decide +kernel, by decide +kernel⟩

theorem ok_is_cells {f : Addr} {fd : FuncData} (F : Fun K "is_cells" "is_cells" s_is_cells f fd) (T : Txt K mg CR) (C_is_whole : CalX P w K mg base CX0 1 "is_whole" spIsInt) : FnOk P w K mg base CX0 2 f fd ["thing", "base"] spCells := by
  refine F.ok sc_is_cells (fun vs H Q E h => ?_) (fun cdv A outer s H vs Q E hr h => ?_)
  · obtain ⟨v, w, rfl, _⟩ := h
    rfl
  obtain ⟨v, cs, rfl, hv, k⟩ := h
  obtain ⟨a, rfl, ha⟩ := hv.word
  refine ⟨_, (pss_cons (ps_if (pt_not (pt_val (pe_callB call_isi2 (by rfl) T.z_isinstance b_isinstance (pa_cons (pv 0) (pa_cons (pe_bltn (v := .ty "tuple") (by rfl) T.z_tuple b_tuple rfl) pa_nil))))) (pss_one (ps_ret pe_bl)) pss_nil)
    (pss_cons (ps_for PassesOwn.never rfl (pi_tup (pv 0)) (pg_name (i := 2) sc_is_cells.nd rfl (Or.inl rfl)) (pss_one (ps_if (PW.pt (pw_or (pt_not (pt_val (pe_u C_is_whole hr (by omega) pass0 (pa_cons (pv 2) pa_nil)))) (pw_or1 (pt_not (pt_chain op_le op_lt pe_int (pv 2) (pv 1)))))) (pss_one (ps_ret pe_bl)) pss_nil)))
    (pss_one (ps_ret pe_bl)))), ?_⟩
  refine ⟨_, rfl, _, _, _, true, rfl, .base (.tup ha), by decide +kernel, _, rfl, ifF (by simp) ?_⟩
  refine ⟨_, rfl, a, rfl, ⟨_, SqT.of ha⟩, for_tup (K := K) (a := a) (xs := cs.map fun c : Nat => V.int (c : Int)) (fun i σ H' => H' = H ∧ (∃ g, σ = [some (.ref a), some (.int 2), g]) ∧ ∀ c ∈ cs.take i, c < 2) ⟨rfl, ⟨_, rfl⟩, by simp⟩ (fun i σ H' _ h => by rw [h.1]; exact SqT.of ha) (fun i x σ H' hx h => ?_) (fun σ H' h => ?_)⟩
  · obtain ⟨rfl, ⟨g, rfl⟩, hc⟩ := h
    rw [List.getElem?_map] at hx
    obtain ⟨c, hc1, rfl⟩ := Option.map_eq_some_iff.mp hx
    refine ⟨_, rfl, _, rfl, _, rfl, ifF (by simp) ?_⟩
    refine ⟨_, rfl, _, _, rfl, rfl, _, rfl, ite2 (fun d => ?_) (fun d => absurd (decide_eq_true (show (0 : Int) ≤ (c : Int) by omega)) d)⟩
    refine ⟨_, rfl, _, _, rfl, rfl, _, rfl, ite2 (fun d => ?_) (fun d => ?_)⟩
    · have d' : ¬ (c : Int) < 2 := by simpa using d
      exact k _ ⟨fun z => (by cases z), fun z => absurd (z c (List.mem_of_getElem? hc1)) (by omega)⟩
    · have d' : (c : Int) < 2 := by simpa using d
      refine ⟨rfl, ⟨_, rfl⟩, fun e he => ?_⟩
      rw [List.take_succ, hc1] at he
      rcases List.mem_append.mp he with z | z
      · exact hc e z
      · simp at z; omega
  · obtain ⟨rfl, ⟨g, rfl⟩, hc⟩ := h
    rw [List.length_map, List.take_length] at hc
    exact k _ ⟨fun _ => hc, fun _ => rfl⟩
abbrev s_is_wholes : Stmt := top 4
theorem sc_is_wholes : FnScope ["thing", "part"] ["thing"] (defScope s_is_wholes) := ⟨rfl, rfl, rfl, by decide +kernel, rfl, by decide +kernel, by decide +kernel⟩

theorem ok_is_wholes {f : Addr} {fd : FuncData} (F : Fun K "is_wholes" "is_wholes" s_is_wholes f fd) (T : Txt K mg CR) (C_is_whole : CalX P w K mg base CX0 1 "is_whole" spIsInt) : FnOk P w K mg base CX0 2 f fd ["thing"] spWholes := by
  refine F.ok sc_is_wholes (fun vs H Q E h => ?_) (fun cdv A outer s H vs Q E hr h => ?_)
  · obtain ⟨v, w, rfl, _⟩ := h
    rfl
  obtain ⟨v, cs, rfl, hv, k⟩ := h
  obtain ⟨a, rfl, ha⟩ := hv.word
  refine ⟨_, (pss_cons (ps_if (pt_not (pt_val (pe_callB call_isi2 (by rfl) T.z_isinstance b_isinstance (pa_cons (pv 0) (pa_cons (pe_bltn (v := .ty "tuple") (by rfl) T.z_tuple b_tuple rfl) pa_nil))))) (pss_one (ps_ret pe_bl)) pss_nil)
    (pss_cons (ps_for PassesOwn.never rfl (pi_tup (pv 0)) (pg_name (i := 1) sc_is_wholes.nd rfl (Or.inl rfl)) (pss_one (ps_if (pt_not (pt_val (pe_u C_is_whole hr (by omega) pass0 (pa_cons (pv 1) pa_nil)))) (pss_one (ps_ret pe_bl)) pss_nil)))
    (pss_one (ps_ret pe_bl)))), ?_⟩
  refine ⟨_, rfl, _, _, _, true, rfl, .base (.tup ha), by decide +kernel, _, rfl, ifF (by simp) ?_⟩
  refine ⟨_, rfl, a, rfl, ⟨_, SqT.of ha⟩, for_tup (K := K) (a := a) (xs := cs.map fun c : Nat => V.int (c : Int)) (fun i σ H' => H' = H ∧ ∃ g, σ = [some (.ref a), g]) ⟨rfl, ⟨_, rfl⟩⟩ (fun i σ H' _ h => by rw [h.1]; exact SqT.of ha) (fun i x σ H' hx h => ?_) (fun σ H' h => ?_)⟩
  · obtain ⟨rfl, ⟨g, rfl⟩⟩ := h
    rw [List.getElem?_map] at hx
    obtain ⟨c, hx, rfl⟩ := Option.map_eq_some_iff.mp hx
    exact ⟨_, rfl, _, rfl, _, rfl, ifF (by simp) ⟨rfl, _, rfl⟩⟩
  · obtain ⟨rfl, ⟨g, rfl⟩⟩ := h
    exact k
abbrev s_is_rows : Stmt := top 5
theorem sc_is_rows : FnScope ["thing", "width", "row"] ["thing", "width"] (defScope s_is_rows) := ⟨rfl, rfl, rfl, by decide +kernel, rfl, by decide +kernel, by decide +kernel⟩

theorem ok_is_rows {f : Addr} {fd : FuncData} (F : Fun K "is_rows" "is_rows" s_is_rows f fd) (T : Txt K mg CR) : FnOk P w K mg base CX0 1 f fd ["thing", "width"] spRows := by
  refine F.ok sc_is_rows (fun vs H Q E h => ?_) (fun cdv A outer s H vs Q E hr h => ?_)
  · obtain ⟨v, w, rfl, _⟩ := h
    rfl
  obtain ⟨v, rs, rfl, hv, k⟩ := h
  obtain ⟨a, us, rfl, ha, hs⟩ := hv.inv
  refine ⟨_, (pss_cons (ps_if (pt_not (pt_val (pe_callB call_isi2 (by rfl) T.z_isinstance b_isinstance (pa_cons (pv 0) (pa_cons (pe_bltn (v := .ty "tuple") (by rfl) T.z_tuple b_tuple rfl) pa_nil))))) (pss_one (ps_ret pe_bl)) pss_nil)
    (pss_cons (ps_for PassesOwn.never rfl (pi_tup (pv 0)) (pg_name (i := 2) sc_is_rows.nd rfl (Or.inl rfl)) (pss_one (ps_if (PW.pt (pw_or (pt_not (pt_val (pe_callB call_isi2 (by rfl) T.z_isinstance b_isinstance (pa_cons (pv 2) (pa_cons (pe_bltn (v := .ty "tuple") (by rfl) T.z_tuple b_tuple rfl) pa_nil))))) (pw_or1 (pt_cmpR op_ne (pe_callB call_len_seq (by rfl) T.z_len b_len (pa_cons (pv 2) pa_nil)) (pv 1) (nomark _))))) (pss_one (ps_ret pe_bl)) pss_nil)))
    (pss_one (ps_ret pe_bl)))), ?_⟩
  refine ⟨_, rfl, _, _, _, true, rfl, .base (.tup ha), by decide +kernel, _, rfl, ifF (by simp) ?_⟩
  refine ⟨_, rfl, a, rfl, ⟨_, SqT.of ha⟩, for_tup (K := K) (a := a) (xs := us) (fun i σ H' => H' = H ∧ ∃ g, σ = [some (.ref a), some (.int 2), g]) ⟨rfl, ⟨_, rfl⟩⟩ (fun i σ H' _ h => by rw [h.1]; exact SqT.of ha) (fun i x σ H' hx h => ?_) (fun σ H' h => ?_)⟩
  · obtain ⟨rfl, ⟨g, rfl⟩⟩ := h
    obtain ⟨p, hp, hv⟩ := hs.get hx
    rw [List.getElem?_map] at hp
    obtain ⟨r, hr2, rfl⟩ := Option.map_eq_some_iff.mp hp
    obtain ⟨b, ys, rfl, hb, hys⟩ := hv.inv
    have hl := hys.length
    refine ⟨_, rfl, _, _, _, true, rfl, .base (.tup hb), by decide +kernel, _, rfl, ifF (by simp) ?_⟩
    refine ⟨_, rfl, b, _, rfl, .inr (SqT.of hb), _, rfl, rfl, _, rfl, ifF ?_ ⟨rfl, _, rfl⟩⟩
    rw [hl]
    simp
  · obtain ⟨rfl, ⟨g, rfl⟩⟩ := h
    exact k
abbrev s_walk : Stmt := top 7
theorem sc_walk : FnScope ["rows", "number", "cells", "cell"] ["rows", "number", "cells"] (defScope s_walk) := ⟨rfl, rfl, rfl, by decide +kernel, rfl, by decide +kernel, by decide +kernel⟩

theorem ok_walk {f : Addr} {fd : FuncData} (F : Fun K "walk" "walk" s_walk f fd) (T : Txt K mg CR) : FnOk P w K mg base CX0 1 f fd ["rows", "number", "cells"] spWalk := by
  refine F.ok sc_walk (fun vs H Q E h => ?_) (fun cdv A outer s H vs Q E hr h => ?_)
  · obtain ⟨v, u, l, n, w, rfl, _⟩ := h
    rfl
  obtain ⟨v, u, l, n, cs, rfl, hv, hu, hc, ok, hn, k⟩ := h
  obtain ⟨a, us, rfl, ha, hs⟩ := hv.inv
  obtain ⟨b, rfl, hb⟩ := hu.word
  refine ⟨_, (pss_cons (ps_for PassesOwn.never rfl (pi_tup (pv 2)) (pg_name (i := 3) sc_walk.nd rfl (Or.inl rfl)) (pss_one (ps_if (pt_cmpR op_ge (pv 1) pe_int (nomark _)) (pss_one (ps_set (i := 1) sc_walk.nd rfl (Or.inl rfl) (pe_ix ix_tup (pe_ix ix_tup (pe_ix ix_tup (pv 0) (pv 1) (fun _ _ => rfl)) pe_int (fun _ _ => rfl)) (pv 3) (fun _ _ => rfl)))) pss_nil)))
    (pss_one (ps_ret (pv 1)))), ?_⟩
  refine ⟨_, rfl, b, rfl, ⟨_, SqT.of hb⟩, for_tup (K := K) (a := b) (xs := cs.map fun c : Nat => V.int (c : Int)) (fun i σ H' => H' = H ∧ ∃ g m, σ = [some (.ref a), some (.int ((m : Nat) : Int)), some (.ref b), g] ∧ m < l.length ∧ walkRw l m (cs.drop i) = walkRw l n cs) ⟨rfl, _, _, rfl, hn, rfl⟩ (fun i σ H' _ h => by rw [h.1]; exact SqT.of hb) (fun i x σ H' hx h => ?_) (fun σ H' h => ?_)⟩
  · obtain ⟨rfl, g, m, rfl, hm, hw⟩ := h
    rw [List.getElem?_map] at hx
    obtain ⟨c, hc1, rfl⟩ := Option.map_eq_some_iff.mp hx
    refine ⟨_, rfl, _, _, rfl, rfl, _, rfl, ite2 (fun d => ?_) (fun d => absurd (decide_eq_true (show (0 : Int) ≤ (m : Int) by omega)) d)⟩
    obtain ⟨q, e, h1, h2, h3⟩ := row_at hs hm
    have cl : c < 2 := hc c (List.mem_of_getElem? hc1)
    have lst : l.getD m (0, 0, 0) ∈ l := by
      rw [List.getD_eq_getElem?_getD, List.getElem?_eq_getElem hm]
      exact List.getElem_mem hm
    have go : atI [V.int ((l.getD m (0, 0, 0)).2.1 : Int), V.int ((l.getD m (0, 0, 0)).2.2 : Int)] (c : Int) = some (.int (goRw l m c : Nat)) := by
      unfold goRw
      have c2 : c = 0 ∨ c = 1 := by omega
      rcases c2 with rfl | rfl <;> rfl
    have dr : cs.drop i = c :: cs.drop (i + 1) := by
      obtain ⟨h1, h2⟩ := List.getElem?_eq_some_iff.mp hc1
      rw [List.drop_eq_getElem_cons h1, h2]
    refine ⟨_, rfl, _, rfl, a, _, _, _, rfl, rfl, SqT.of ha, atI_nat h1, q, _, 1, _, rfl, rfl, SqT.of h2, rfl, _, rfl, e, _, _, _, rfl, rfl, SqT.of h3, go, ?_⟩
    refine ⟨rfl, _, goRw l m c, rfl, ?_, ?_⟩
    · unfold goRw
      have := ok _ lst
      split <;> omega
    · rw [dr] at hw
      exact hw
  · obtain ⟨rfl, g, m, rfl, hm, hw⟩ := h
    rw [List.length_map, List.drop_length] at hw
    rw [← hw] at k
    exact ⟨_, rfl, k⟩
end
end Toy

set_option Elab.async false
set_option linter.all false
set_option maxRecDepth 100000
set_option maxHeartbeats 4000000
namespace Toy
open PySem L2
/-! lists side by side -/
inductive A2 {α β : Type} (R : α → β → Prop) : List α → List β → Prop
  | nil : A2 R [] []
  | cons {a : α} {b : β} {as : List α} {bs : List β} : R a b → A2 R as bs → A2 R (a :: as) (b :: bs)
theorem A2.mono {α β : Type} {R S : α → β → Prop} (h : ∀ a b, R a b → S a b) : ∀ {as : List α} {bs : List β}, A2 R as bs → A2 S as bs
  | _, _, .nil => .nil
  | _, _, .cons a b => .cons (h _ _ a) (A2.mono h b)
theorem A2.length {α β : Type} {R : α → β → Prop} : ∀ {as : List α} {bs : List β}, A2 R as bs → as.length = bs.length
  | _, _, .nil => rfl
  | _, _, .cons _ b => by simp [A2.length b]
theorem A2.append {α β : Type} {R : α → β → Prop} {cs : List α} {ds : List β} : ∀ {as : List α} {bs : List β}, A2 R as bs → A2 R cs ds → A2 R (as ++ cs) (bs ++ ds)
  | _, _, .nil, h => h
  | _, _, .cons a b, h => .cons a (A2.append b h)
theorem A2.get {α β : Type} {R : α → β → Prop} : ∀ {as : List α} {bs : List β} {i : Nat} {a : α}, A2 R as bs → as[i]? = some a → ∃ b, bs[i]? = some b ∧ R a b
  | _, _, i, _, .nil, e => by simp at e
  | _, _, 0, _, .cons a _, e => by simp at e; subst e; exact ⟨_, rfl, a⟩
  | _, _, i + 1, _, .cons _ b, e => by
    obtain ⟨p, e1, e2⟩ := A2.get b (i := i) (by simpa using e)
    exact ⟨p, by simpa using e1, e2⟩
theorem A2.at {α β : Type} {R : α → β → Prop} : ∀ {as : List α} {bs : List β} {i : Nat} {b : β}, A2 R as bs → bs[i]? = some b → ∃ a, as[i]? = some a ∧ R a b
  | _, _, i, _, .nil, e => by simp at e
  | _, _, 0, _, .cons a _, e => by simp at e; subst e; exact ⟨_, rfl, a⟩
  | _, _, i + 1, _, .cons _ b, e => by
    obtain ⟨p, e1, e2⟩ := A2.at b (i := i) (by simpa using e)
    exact ⟨p, by simpa using e1, e2⟩
theorem A2.perm {α β : Type} {R : α → β → Prop} {as cs : List α} (p : as.Perm cs) : ∀ {bs : List β}, A2 R as bs → ∃ ds, bs.Perm ds ∧ A2 R cs ds := by
  induction p with
  | nil => intro bs h; exact ⟨bs, .refl _, h⟩
  | cons x _ ih =>
    intro bs h
    cases h with
    | cons a b =>
      obtain ⟨ds, p, q⟩ := ih b
      exact ⟨_, p.cons _, .cons a q⟩
  | swap x y l =>
    intro bs h
    cases h with
    | cons a b => cases b with | cons c d => exact ⟨_, .swap _ _ _, .cons c (.cons a d)⟩
  | trans _ _ ih1 ih2 =>
    intro bs h
    obtain ⟨ds, p, q⟩ := ih1 h
    obtain ⟨es, r, s⟩ := ih2 q
    exact ⟨es, p.trans r, s⟩
theorem dvs_a2 {H : Hp} {ws : List (List Nat)} : ∀ {vs : List V}, A2 (fun v w => DV H v (wd w)) vs ws → DVs H vs (ws.map wd) := by
  induction ws with
  | nil => intro vs h; cases h; exact .nil
  | cons w ws ih => intro vs h; cases h with | cons a b => exact .cons a (ih b)
theorem a2_dvs {H : Hp} {ws : List (List Nat)} : ∀ {vs : List V}, DVs H vs (ws.map wd) → A2 (fun v w => DV H v (wd w)) vs ws := by
  induction ws with
  | nil => intro vs h; cases h; exact .nil
  | cons w ws ih => intro vs h; cases h with | cons a b => exact .cons a (ih b)
/-! the order of words -/
def kw (w : List Nat) : Int × List Int := ((w.length : Int), w.map fun c : Nat => ((c : Nat) : Int))
def ltW (a b : List Nat) : Bool := LW.lexN (kw a) (kw b)
theorem kw_inj {a b : List Nat} (h : kw a = kw b) : a = b := by
  have := congrArg Prod.snd h
  exact (List.map_inj_right (fun x y e => Int.ofNat_inj.mp e)).mp this
theorem ltW_irr (a : List Nat) : ltW a a = false := (LW.lexN_swo kw).refl a
theorem ltW_asym {a b : List Nat} (h : ltW a b = true) : ltW b a = false := (LW.lexN_swo kw).asym a b h
theorem ltW_tri {a b : List Nat} (h1 : ltW a b = false) (h2 : ltW b a = false) : a = b := kw_inj (LW.lexN_tri _ _ h1 h2)
theorem ltW_trans {a b c : List Nat} (h1 : ltW a b = true) (h2 : ltW b c = true) : ltW a c = true := by
  cases h : ltW a c with
  | true => rfl
  | false =>
    have q : ltW a b = false := (LW.lexN_swo kw).tr b c a (ltW_asym h2) h
    rw [h1] at q; cases q
theorem ltW_len {a b : List Nat} (h : a.length < b.length) : ltW a b = true := by
  unfold ltW LW.lexN kw
  rw [if_neg (by simp; omega)]
  exact decide_eq_true (by simp; omega)
abbrev SortedW (ws : List (List Nat)) : Prop := ws.Pairwise fun a b => ltW a b = true
theorem SortedW.nodup {ws : List (List Nat)} (h : SortedW ws) : ws.Nodup := h.imp fun {a b} q e => by rw [e, ltW_irr] at q; cases q
theorem sorted_uniq : ∀ {a b : List (List Nat)}, SortedW a → SortedW b → (∀ w, w ∈ a ↔ w ∈ b) → a = b
  | [], [], _, _, _ => rfl
  | [], y :: ys, _, _, h => absurd ((h y).mpr (by simp)) (by simp)
  | x :: xs, [], _, _, h => absurd ((h x).mp (by simp)) (by simp)
  | x :: xs, y :: ys, h1, h2, h => by
    obtain ⟨a1, a2⟩ := List.pairwise_cons.mp h1
    obtain ⟨b1, b2⟩ := List.pairwise_cons.mp h2
    have e : x = y := by
      rcases List.mem_cons.mp ((h x).mp (by simp)) with e | m
      · exact e
      · rcases List.mem_cons.mp ((h y).mpr (by simp)) with e | m2
        · exact e.symm
        · have := ltW_asym (b1 x m)
          rw [a1 y m2] at this; cases this
    subst e
    refine congrArg _ (sorted_uniq a2 b2 fun w => ⟨fun m => ?_, fun m => ?_⟩)
    · rcases List.mem_cons.mp ((h w).mp (List.mem_cons_of_mem _ m)) with e | q
      · subst e; have := a1 w m; rw [ltW_irr] at this; cases this
      · exact q
    · rcases List.mem_cons.mp ((h w).mpr (List.mem_cons_of_mem _ m)) with e | q
      · subst e; have := b1 w m; rw [ltW_irr] at this; cases this
      · exact q
/-! keys -/
def ky (w : List Nat) : List Key := w.map fun c : Nat => Sum.inl ((c : Nat) : Int)
theorem ky_vs (w : List Nat) : (ky w).map kV = w.map fun c : Nat => V.int (c : Int) := by unfold ky; rw [List.map_map]; rfl
theorem ky_inj {a b : List Nat} (h : ky a = ky b) : a = b := (List.map_inj_right (fun x y e => Int.ofNat_inj.mp (Sum.inl.inj e))).mp h
def en (w : List Nat) : List Key × V := (ky w, .bl true)
theorem put_en (gs : List (List Nat)) (w : List Nat) : putK (gs.map en) (ky w) (.bl true) = if w ∈ gs then gs.map en else (gs ++ [w]).map en := by
  unfold putK
  have e : ((gs.map en).any fun kv => decide (kv.1 = ky w)) = decide (w ∈ gs) := by
    rw [Bool.eq_iff_iff, List.any_eq_true, decide_eq_true_eq]
    constructor
    · rintro ⟨p, hp, h⟩
      obtain ⟨g, hg, rfl⟩ := List.mem_map.mp hp
      have := ky_inj (of_decide_eq_true h : ky g = ky w)
      rwa [← this]
    · intro h
      exact ⟨en w, List.mem_map.mpr ⟨w, h, rfl⟩, decide_eq_true rfl⟩
  rw [e]
  by_cases h : w ∈ gs
  · rw [if_pos (decide_eq_true h), if_pos h]
    refine (List.map_congr_left fun p hp => ?_).trans (List.map_id _)
    obtain ⟨g, _, rfl⟩ := List.mem_map.mp hp
    by_cases q : (en g).1 = ky w
    · rw [if_pos q]; rfl
    · rw [if_neg q]; rfl
  · rw [if_neg (by rw [decide_eq_false h]; decide), if_neg h, List.map_append]
    rfl
/-- a pair (length, word) -/
def PairAt (H : Hp) (v : V) (w : List Nat) : Prop := ∃ t b, v = .ref t ∧ H t = some (.tup [.int ((w.length : Nat) : Int), .ref b]) ∧ H b = some (.tup (w.map fun c : Nat => V.int (c : Int)))
theorem PairAt.mono {H H' : Hp} (k : Tups H H') {v : V} {w : List Nat} (h : PairAt H v w) : PairAt H' v w := by
  obtain ⟨t, b, e, h1, h2⟩ := h
  exact ⟨t, b, e, k _ _ h1, k _ _ h2⟩
def vInt : V → Int
  | .int i => i
  | _ => 0
def kOf (H : Hp) : V → Int × List Int
  | .ref t => match H t with
    | some (.tup [.int i, .ref b]) => match H b with
      | some (.tup ys) => (i, ys.map vInt)
      | _ => (0, [])
    | _ => (0, [])
  | _ => (0, [])
theorem kOf_pair {H : Hp} {v : V} {w : List Nat} (h : PairAt H v w) : kOf H v = kw w := by
  obtain ⟨t, b, rfl, h1, h2⟩ := h
  simp only [kOf, h1, h2, kw, List.map_map]
  rfl
def spOrder : Sp := fun vs H Q _ => ∃ (p : Addr) (us : List V) (fs : List (List Nat)), vs = [.ref p] ∧ H p = some (.lst us) ∧ DVs H us (fs.map wd) ∧ fs.length ≤ 1000 ∧
  ∀ (q : Addr) (H' : Hp) (us' : List V) (ws : List (List Nat)), Same H H' → H' q = some (.lst us') → DVs H' us' (ws.map wd) → SortedW ws → (∀ w, w ∈ ws ↔ w ∈ fs) → Q (.ref q) H'
/-- what sorted gives -/
theorem sorted_gives {H : Hp} {vs ys : List V} {ws : List (List Nat)} (a : A2 (PairAt H) vs ws) (nd : ws.Nodup) (h1 : SrtO.Srtd (fun u v => LW.lexN (kOf H u) (kOf H v)) ys) (h2 : SrtO.Stb (fun u v => LW.lexN (kOf H u) (kOf H v)) ys vs) :
    ∃ zs, A2 (PairAt H) ys zs ∧ SortedW zs ∧ ∀ w, w ∈ zs ↔ w ∈ ws := by
  obtain ⟨zs, p, q⟩ := A2.perm h2.perm.symm a
  refine ⟨zs, q, ?_, fun w => p.mem_iff.symm⟩
  have nd2 : zs.Nodup := p.nodup_iff.mp nd
  refine List.pairwise_iff_getElem.mpr fun i j hi hj lt => ?_
  obtain ⟨u, hu, pu⟩ := q.at (List.getElem?_eq_getElem hi)
  obtain ⟨v, hv, pv⟩ := q.at (List.getElem?_eq_getElem hj)
  obtain ⟨li, eu⟩ := List.getElem?_eq_some_iff.mp hu
  obtain ⟨lj, ev⟩ := List.getElem?_eq_some_iff.mp hv
  have s := List.pairwise_iff_getElem.mp h1 i j li lj lt
  rw [eu, ev] at s
  have s : LW.lexN (kOf H v) (kOf H u) = false := s
  rw [kOf_pair pu, kOf_pair pv] at s
  cases c : ltW zs[i] zs[j] with
  | true => rfl
  | false =>
    have e := ltW_tri c s
    exact absurd e (List.pairwise_iff_getElem.mp nd2 i j hi hj lt)
section
variable {P : Program} {w : World} {K : PySem.W.Frag} {mg : Str → Option Value} {base : Heap} {CR : Addr}
theorem wd_ky {H : Hp} {a : Addr} {w : List Nat} (e : H a = some (.tup ((ky w).map kV))) : DV H (.ref a) (wd w) := .of_word (by rw [← ky_vs]; exact e)
abbrev s_in_order : Stmt := top 9
theorem sc_in_order : FnScope ["files", "found", "file", "row"] ["files"] (defScope s_in_order) := ⟨rfl, rfl, rfl, by decide +kernel, rfl, by decide +kernel, by decide +kernel⟩

theorem ok_in_order {f : Addr} {fd : FuncData} (F : Fun K "in_order" "in_order" s_in_order f fd) (T : Txt K mg CR) : FnOk P w K mg base CX0 1 f fd ["files"] spOrder := by
  refine F.ok sc_in_order (fun vs H Q E h => ?_) (fun cdv A outer s H vs Q E hr h => ?_)
  · obtain ⟨p, us, fs, rfl, _⟩ := h
    rfl
  obtain ⟨p, us, fs, rfl, hp, hd, hl, k⟩ := h
  have hlen := hd.length
  rw [List.length_map] at hlen
  refine ⟨_, (pss_cons (ps_set (i := 1) sc_in_order.nd rfl (Or.inl rfl) pe_dnewT)
    (pss_cons (ps_for PassesOwn.never rfl (pi_list (pv 0)) (pg_name (i := 2) sc_in_order.nd rfl (Or.inl rfl)) (pss_one (ps_dput (hu_b hr) (pv 1) (pv 2) pe_bl rfl)))
    (pss_one (ps_ret (pe_lc (own := [("row", 3)]) (g := gName 3) (by rfl) sc_in_order.nd (pi_list (pe_callB (cr_sortLW (hu_c hr)) (by rfl) T.z_sorted b_sorted (pa_cons (pe_lock (pe_lc (own := [("file", 2)]) (g := gName 2) (by rfl) sc_in_order.nd (pi_keys (pv 1)) (blkOk_by (own := [("file", 2)]) (N := ["files", "found", "file", "row"]) (sc := defScope s_in_order) (by decide +kernel)) (fun _ _ _ _ _ => pg_name (i := 2) sc_in_order.nd rfl (Or.inl rfl)) (fun _ _ _ _ _ => pts_nil) (fun _ _ _ _ _ => (pe_tup (pa_cons (pe_callB (callK_len_seq K rfl) (by rfl) T.z_len b_len (pa_cons (pv 2) pa_nil)) (pa_cons (pv 2) pa_nil)))))) pa_nil))) (blkOk_by (own := [("row", 3)]) (N := ["files", "found", "file", "row"]) (sc := defScope s_in_order) (by decide +kernel)) (fun _ _ _ _ _ => pg_name (i := 3) sc_in_order.nd rfl (Or.inl rfl)) (fun _ _ _ _ _ => pts_nil) (fun _ _ _ _ _ => (pe_ix (ixK_tup K rfl) (pv 3) pe_int (fun _ _ => rfl)))))))), ?_⟩
  intro d hdn
  refine ⟨_, rfl, p, rfl, ⟨_, SqL.of (by rw [upd_ne (ne_of_none hp hdn)]; exact hp)⟩, for_list (K := K) (a := p) (xs := us) (fun i σ H' => Same H H' ∧ (∃ g2, σ = [some (.ref p), some (.ref d), g2, none]) ∧ ∃ gs : List (List Nat), H' d = some (.dT (gs.map en)) ∧ gs.Nodup ∧ gs.length ≤ i ∧ ∀ w, w ∈ gs ↔ w ∈ fs.take i)
    ⟨Same.upd hdn, ⟨_, rfl⟩, [], upd_same, List.nodup_nil, Nat.le_refl 0, by simp⟩ (fun i σ H' _ h => SqL.of (h.1 _ _ hp)) (fun i x σ H' hx h => ?_) (fun σ H' h => ?_)⟩
  · obtain ⟨s1, ⟨g2, rfl⟩, gs, hg, nd, gl, mem⟩ := h
    obtain ⟨q, hq, dv⟩ := hd.get hx
    rw [List.getElem?_map] at hq
    obtain ⟨f0, hf, rfl⟩ := Option.map_eq_some_iff.mp hq
    obtain ⟨a, rfl, ha⟩ := (dv.mono (same_tp s1)).word
    have hi : i < us.length := (List.getElem?_eq_some_iff.mp hx).1
    refine ⟨_, rfl, _, rfl, d, _, rfl, DPut.t (k := ky f0) hg (by rw [ky_vs]; exact ha) (by rw [List.length_map]; exact small1000 (by omega)), ?_⟩
    rw [put_en]
    have tk : fs.take (i + 1) = fs.take i ++ [f0] := by rw [List.take_succ, hf]; rfl
    refine ⟨fun b o e => by rw [upd_ne (ne_of_none e hdn)]; exact s1 b o e, ⟨_, rfl⟩, if f0 ∈ gs then gs else gs ++ [f0], ?_, ?_, ?_, fun w => ?_⟩
    · rw [upd_same]; split <;> rfl
    · split
      · exact nd
      · rename_i c
        exact List.nodup_append.mpr ⟨nd, by simp, fun u hu b hb e => by simp at hb; subst hb; subst e; exact c hu⟩
    · split
      · omega
      · simp; omega
    · rw [tk, List.mem_append, ← mem w]
      split
      · rename_i c
        simp
        intro e; subst e; exact c
      · rw [List.mem_append]
  · obtain ⟨s1, ⟨g2, rfl⟩, gs, hg, nd, gl, mem⟩ := h
    rw [hlen, List.take_length] at mem
    have gl2 : gs.length ≤ 1000 := by omega
    -- the pairs
    refine ⟨d, _, hg, True.intro, fun od => ⟨_, rfl, d, od, rfl, .inr ⟨_, upd_same, fun D hD => ?_⟩⟩⟩
    have Dd : D ≠ d := fun z => by rw [z, upd_same] at hD; cases hD
    have HD : H' D = none := by rwa [upd_ne Dd] at hD
    refine lc_it (n := (gs.map en).length) walk_keysT (fun i H2 => H2 d = some (.frz od (.dT (gs.map en))) ∧ (∀ b o, b ≠ d → H' b = some o → H2 b = some o) ∧ ∃ ts, H2 D = some (.lst ts) ∧ A2 (PairAt H2) ts (gs.take i)) ⟨?_, ?_, [], upd_same, .nil⟩ (fun i H2 _ h => h.1) (fun i x H2 H3 hi h y => ?_) (fun H2 h => ?_)
    · rw [upd_ne (Ne.symm Dd), upd_same]
    · intro b o nb e
      rw [upd_ne (ne_of_none e HD), upd_ne nb]; exact e
    · obtain ⟨fz, sm, ts, hts, a2⟩ := h
      obtain ⟨rfl, kk, v, q, ek, rfl, hq⟩ := y
      rw [List.getElem?_map] at ek
      obtain ⟨g0, hg0, eg⟩ := Option.map_eq_some_iff.mp ek
      obtain rfl : ky g0 = kk := congrArg Prod.fst eg
      rw [ky_vs] at hq
      refine ⟨rfl, ?_⟩
      simp only [tYes, if_true]
      refine ⟨_, rfl, q, _, rfl, .inr (SqT.of hq), _, rfl, by show 2 ≤ sizeLine; decide, fun t ht => ⟨ts, ?_, ?_, ?_⟩⟩
      · rw [upd_ne (ne_of_none hts ht)]; exact hts
      · have := a2.length
        rw [List.length_take] at this
        exact small1000 (by omega)
      · have tp : Tups H3 (upd (upd H3 t (.tup [.int (((g0.map fun c : Nat => V.int (c : Int)).length : Nat) : Int), .ref q])) D (.lst (ts ++ [V.ref t]))) :=
          (tups_new ht).trans (tups_upd fun xs e => by rw [upd_ne (ne_of_none hts ht), hts] at e; cases e)
        refine ⟨?_, ?_, _, upd_same, ?_⟩
        · rw [upd_ne (Ne.symm Dd), upd_ne (ne_of_none fz ht)]; exact fz
        · intro b o nb e
          rw [upd_ne (ne_of_none e HD), upd_ne (ne_of_none (sm b o nb e) ht)]
          exact sm b o nb e
        · rw [List.take_succ, hg0]
          refine (a2.mono fun v w h => h.mono tp).append (.cons ⟨t, q, rfl, ?_, tp _ _ ?_⟩ .nil)
          · rw [upd_ne (fun z => by rw [z, hts] at ht; cases ht), upd_same, List.length_map]
          · exact hq
    · obtain ⟨fz, sm, ts, hts, a2⟩ := h
      rw [List.length_map, List.take_length] at a2
      refine ⟨fz, ?_⟩
      obtain ⟨H3, hH3⟩ : ∃ H3, H3 = upd H2 d (.dT (gs.map en)) := ⟨_, rfl⟩
      rw [← hH3]
      have tp3 : Tups H2 H3 := by rw [hH3]; exact tups_upd fun xs e => by rw [fz] at e; cases e
      have h3D : H3 D = some (.lst ts) := by rw [hH3, upd_ne Dd]; exact hts
      have a3 := a2.mono fun v w h => h.mono tp3
      have s3 : Same H H3 := fun b o e => by
        have e1 := s1 b o e
        by_cases c : b = d
        · subst c; rw [hdn] at e; cases e
        · rw [hH3, upd_ne c]; exact sm b o c e1
      refine ⟨D, ts, kOf H3, rfl, SqL.of h3D, fun x hx => ?_, fun ys p1 o1 o2 hp1 => ?_⟩
      · obtain ⟨j, hj, rfl⟩ := List.getElem_of_mem hx
        obtain ⟨g0, hg0, pr⟩ := a3.get (List.getElem?_eq_getElem hj)
        have ek := kOf_pair pr
        obtain ⟨t, b, e1, e2, e3⟩ := pr
        refine ⟨t, b, e1, by rw [ek]; exact e2, ?_⟩
        rw [ek, e3]
        simp only [kw, List.map_map]
        rfl
      · obtain ⟨zs, a4, so, me⟩ := sorted_gives a3 nd o1 o2
        have tl : ys.length ≤ 1000 := by have := o2.len; have := a3.length; omega
        refine ⟨p1, rfl, ⟨_, SqL.of upd_same⟩, fun D2 hD2 => ?_⟩
        have D2p : D2 ≠ p1 := fun z => by rw [z, upd_same] at hD2; cases hD2
        have hD3 : H3 D2 = none := by rwa [upd_ne D2p] at hD2
        refine lc_list (K := K) (a := p1) (xs := ys) (fun i H5 => Same H3 H5 ∧ H5 p1 = some (.lst ys) ∧ ∃ rs, H5 D2 = some (.lst rs) ∧ A2 (fun v w => DV H5 v (wd w)) rs (zs.take i)) ⟨(Same.upd hp1).trans (Same.upd hD2), ?_, [], upd_same, .nil⟩ (fun _ H5 _ h => SqL.of h.2.1) (fun i x H5 hx h => ?_) (fun H5 h => ?_)
        · rw [upd_ne (Ne.symm D2p), upd_same]
        · obtain ⟨s5, h5, rs, hrs, a5⟩ := h
          obtain ⟨w0, hw0, pr⟩ := a4.get hx
          obtain ⟨t, b, rfl, e2, e3⟩ := pr
          refine ⟨rfl, ?_⟩
          simp only [tYes, if_true]
          refine ⟨_, rfl, t, _, 1, _, rfl, rfl, SqT.of (s5 _ _ e2), rfl, rs, hrs, ?_, ?_, ?_, _, upd_same, ?_⟩
          · have := a5.length
            have := (List.getElem?_eq_some_iff.mp hx).1
            rw [List.length_take] at *
            exact small1000 (by omega)
          · intro b o e
            rw [upd_ne (ne_of_none e hD3)]; exact s5 b o e
          · rw [upd_ne (Ne.symm D2p)]; exact h5
          · have tp : Tups H5 (upd H5 D2 (.lst (rs ++ [V.ref b]))) := tups_upd fun xs e => by rw [hrs] at e; cases e
            rw [List.take_succ, hw0]
            exact (a5.mono fun v w h => h.mono tp).append (.cons (.of_word (tp _ _ (s5 _ _ e3))) .nil)
        · obtain ⟨s5, h5, rs, hrs, a5⟩ := h
          have el := a4.length
          rw [el, List.take_length] at a5
          refine k D2 H5 rs zs (s3.trans s5) hrs (dvs_a2 a5) so fun w => ?_
          rw [me w, mem w]
end
end Toy

set_option Elab.async false
set_option linter.all false
set_option maxRecDepth 100000
set_option maxHeartbeats 4000000
namespace Toy
open PySem L2
/-- w begins one of fs, or is empty -/
def Beg (fs : List (List Nat)) (w : List Nat) : Prop := w = [] ∨ ∃ x ∈ fs, w <+: x
def spBeg : Sp := fun vs H Q _ => ∃ (p : Addr) (us : List V) (fs : List (List Nat)), vs = [.ref p] ∧ H p = some (.tup us) ∧ DVs H us (fs.map wd) ∧ (fs.map List.length).sum ≤ 900 ∧
  ∀ (q : Addr) (H' : Hp) (us' : List V) (ws : List (List Nat)), Same H H' → H' q = some (.lst us') → DVs H' us' (ws.map wd) → SortedW ws → (∀ w, w ∈ ws ↔ Beg fs w) → Q (.ref q) H'
section
variable {P : Program} {w : World} {K : PySem.W.Frag} {mg : Str → Option Value} {base : Heap} {CR : Addr}
abbrev s_beginnings_of : Stmt := top 10
theorem sc_beginnings_of : FnScope ["files", "found", "file", "at"] ["files"] (defScope s_beginnings_of) := ⟨rfl, rfl, rfl, by decide +kernel, rfl, by decide +kernel, by decide +kernel⟩

theorem ok_beginnings {f : Addr} {fd : FuncData} (F : Fun K "beginnings_of" "beginnings_of" s_beginnings_of f fd) (T : Txt K mg CR) (C_in_order : CalX P w K mg base CX0 1 "in_order" spOrder) : FnOk P w K mg base CX0 2 f fd ["files"] spBeg := by
  refine F.ok sc_beginnings_of (fun vs H Q E h => ?_) (fun cdv A outer s H vs Q E hr h => ?_)
  · obtain ⟨p, us, fs, rfl, _⟩ := h
    rfl
  obtain ⟨p, us, fs, rfl, hp, hd, hl, k⟩ := h
  have hlen := hd.length
  rw [List.length_map] at hlen
  refine ⟨_, (pss_cons (ps_set (i := 1) sc_beginnings_of.nd rfl (Or.inl rfl) (pe_lst (pa_cons (pe_tup pa_nil) pa_nil)))
    (pss_cons (ps_for PassesOwn.never rfl (pi_tup (pv 0)) (pg_name (i := 2) sc_beginnings_of.nd rfl (Or.inl rfl)) (pss_one (ps_for PassesOwn.never rfl (pi_range1 (by rfl) T.z_range (pa_cons (pe_callB call_len_seq (by rfl) T.z_len b_len (pa_cons (pv 2) pa_nil)) pa_nil)) (pg_name (i := 3) sc_beginnings_of.nd rfl (Or.inl rfl)) (pss_one (ps_expr (pe_bm PySem.F.plainAttrs_list PySem.F.slot_list_append PySem.F.type_list_append mt_append (pv 1) (pa_cons (pe_slice sl_tupB (pv 2) po_none (po_some (pe_op op_add (pv 3) pe_int))) pa_nil)))))))
    (pss_one (ps_ret (pe_u C_in_order hr (by omega) pass0 (pa_cons (pv 1) pa_nil)))))), ?_⟩
  refine ⟨by show 0 ≤ sizeLine; decide, fun e he => ⟨by show 1 ≤ sizeLine; decide, fun d hdn => ?_⟩⟩
  have se : Same H (upd (upd H e (.tup [])) d (.lst [V.ref e])) := (Same.upd he).trans (Same.upd hdn)
  have Hd : H d = none := by
    rw [upd_ne (fun z => by rw [z, upd_same] at hdn; cases hdn)] at hdn
    exact hdn
  have ed : e ≠ d := fun z => by rw [← z, upd_same] at hdn; cases hdn
  refine ⟨_, rfl, p, rfl, ⟨_, SqT.of (se _ _ hp)⟩, for_tup (K := K) (a := p) (xs := us) (fun i σ H' => Same H H' ∧ (∃ g2 g3, σ = [some (.ref p), some (.ref d), g2, g3]) ∧ ∃ gs ts, H' d = some (.lst ts) ∧ A2 (fun v w => DV H' v (wd w)) ts gs ∧ gs.length = 1 + ((fs.take i).map List.length).sum ∧ ∀ w, w ∈ gs ↔ Beg (fs.take i) w)
    ⟨se, ⟨_, _, rfl⟩, [[]], _, upd_same, .cons (.of_word (by rw [upd_ne ed, upd_same]; rfl)) .nil, by simp, fun w => by simp [Beg]⟩ (fun i σ H' _ h => SqT.of (h.1 _ _ hp)) (fun i x σ H' hx h => ?_) (fun σ H' h => ?_)⟩
  · obtain ⟨s1, ⟨g2, g3, rfl⟩, gs, ts, hts, a1, gl, mem⟩ := h
    obtain ⟨q, hq, dv⟩ := hd.get hx
    rw [List.getElem?_map] at hq
    obtain ⟨f0, hf, rfl⟩ := Option.map_eq_some_iff.mp hq
    obtain ⟨a, rfl, ha⟩ := dv.word
    have tk : fs.take (i + 1) = fs.take i ++ [f0] := by rw [List.take_succ, hf]; rfl
    have small : ((fs.take (i + 1)).map List.length).sum ≤ 900 := by
      have e1 : (fs.map List.length).sum = ((fs.take (i + 1)).map List.length).sum + ((fs.drop (i + 1)).map List.length).sum := by
        rw [← List.sum_append, ← List.map_append, List.take_append_drop]
      omega
    refine ⟨_, rfl, a, _, rfl, .inr (SqT.of (s1 _ _ ha)), _, rfl, ?_⟩
    have eN : ((((f0.map fun c : Nat => V.int (c : Int)).length : Nat) : Int)).toNat = f0.length := by simp
    have fl : f0.length ≤ 900 := by
      rw [tk, List.map_append, List.sum_append] at small
      simp at small; omega
    refine ⟨by rw [List.length_map]; omega, by rw [List.length_map]; omega, ?_⟩
    refine for_range (lo := 0) (n := (((f0.map fun c : Nat => V.int (c : Int)).length : Nat) : Int).toNat) (fun j σ H2 => Same H H2 ∧ (∃ g3, σ = [some (.ref p), some (.ref d), some (.ref a), g3]) ∧ ∃ gs ts, H2 d = some (.lst ts) ∧ A2 (fun v w => DV H2 v (wd w)) ts gs ∧ gs.length = 1 + ((fs.take i).map List.length).sum + j ∧ ∀ w, w ∈ gs ↔ Beg (fs.take i) w ∨ ∃ m, m < j ∧ w = f0.take (m + 1))
      ⟨s1, ⟨_, rfl⟩, gs, ts, hts, a1, by omega, fun w => by simp [mem w]⟩ (fun j σ H2 hj h => ?_) (fun σ H2 h => ?_)
    · obtain ⟨s2, ⟨g3, rfl⟩, gs, ts, hts, a2, gl2, mem2⟩ := h
      rw [eN] at hj
      refine ⟨_, rfl, .inl ⟨rfl, _, SqL.of hts⟩, ?_⟩
      refine ⟨_, rfl, _, rfl, _, _, rfl, rfl, _, rfl, a, _, rfl, s2 _ _ ha, fun b H3 s3 hb => ?_⟩
      refine ⟨d, ts, _, rfl, rfl, s3 _ _ hts, ?_, ?_⟩
      · have := a2.length
        have e1 : ((fs.take (i + 1)).map List.length).sum = ((fs.take i).map List.length).sum + f0.length := by
          rw [tk, List.map_append, List.sum_append]; simp
        exact small1000 (by omega)
      · have hb' : H3 b = some (.tup ((f0.take (j + 1)).map fun c : Nat => V.int (c : Int))) := by
          rw [hb, show (0 : Int) + (j : Int) + 1 = ((j + 1 : Nat) : Int) by omega, cutV_to, List.map_take]
        have tp : Tups H3 (upd H3 d (.lst (ts ++ [V.ref b]))) := tups_upd fun xs e => by rw [s3 _ _ hts] at e; cases e
        refine ⟨fun c o e => ?_, ⟨_, rfl⟩, gs ++ [f0.take (j + 1)], _, upd_same, (a2.mono fun v w h => (h.mono (same_tp s3)).mono tp).append (.cons (.of_word (tp _ _ hb')) .nil), by rw [List.length_append, List.length_singleton]; omega, fun w => ?_⟩
        · rw [upd_ne (ne_of_none e Hd)]
          exact s3 _ _ (s2 _ _ e)
        · rw [List.mem_append, mem2 w, List.mem_singleton]
          constructor
          · rintro ((h | ⟨m, hm, h⟩) | h)
            · exact .inl h
            · exact .inr ⟨m, by omega, h⟩
            · exact .inr ⟨j, by omega, h⟩
          · rintro (h | ⟨m, hm, h⟩)
            · exact .inl (.inl h)
            · by_cases c : m = j
              · subst c; exact .inr h
              · exact .inl (.inr ⟨m, by omega, h⟩)
    · obtain ⟨s2, ⟨g3, rfl⟩, gs, ts, hts, a2, gl2, mem2⟩ := h
      rw [eN] at gl2 mem2
      refine ⟨s2, ⟨_, _, rfl⟩, gs, ts, hts, a2, ?_, fun w => ?_⟩
      · rw [tk, List.map_append, List.sum_append]
        simp [List.map_take] at gl2 ⊢; omega
      · rw [mem2 w, tk]
        unfold Beg
        simp only [List.mem_append, List.mem_singleton]
        constructor
        · rintro ((h | ⟨x, hx, h⟩) | ⟨m, hm, rfl⟩)
          · exact .inl h
          · exact .inr ⟨x, .inl hx, h⟩
          · exact .inr ⟨f0, .inr rfl, List.take_prefix _ _⟩
        · rintro (h | ⟨x, hx | rfl, h⟩)
          · exact .inl (.inl h)
          · exact .inl (.inr ⟨x, hx, h⟩)
          · by_cases e : w = []
            · exact .inl (.inl e)
            · refine .inr ⟨w.length - 1, ?_, ?_⟩
              · have := h.length_le
                have : w.length ≠ 0 := fun z => e (List.length_eq_zero_iff.mp z)
                omega
              · have : w.length ≠ 0 := fun z => e (List.length_eq_zero_iff.mp z)
                rw [show w.length - 1 + 1 = w.length by omega]
                exact (List.prefix_iff_eq_take.mp h)
  · obtain ⟨s1, ⟨g2, g3, rfl⟩, gs, ts, hts, a1, gl, mem⟩ := h
    rw [hlen, List.take_length] at gl mem
    refine ⟨_, rfl, d, ts, gs, rfl, hts, dvs_a2 a1, by omega, fun q H2 us' ws s2 hq hv so me => k q H2 us' ws (s1.trans s2) hq hv so fun w => by rw [me w, mem w]⟩
end
end Toy

set_option Elab.async false
set_option linter.all false
set_option maxRecDepth 100000
set_option maxHeartbeats 4000000
namespace Toy
open PySem L2
/-! the watcher that grows -/
abbrev Lk := Nat → Nat → Option Nat
def run (k : Lk) : Nat → List Nat → Option Nat
  | r, [] => some r
  | r, c :: w => (k r c).bind fun s => run k s w
def rwN (k : Lk) (w : List Nat) : Nat := (run k 0 w).getD 0
def Lk.put (k : Lk) (r c v : Nat) : Lk := fun r' c' => if r' = r ∧ c' = c then some v else k r' c'
def Lk.le (k k' : Lk) : Prop := ∀ r c s, k r c = some s → k' r c = some s
theorem run_le {k k' : Lk} (h : k.le k') : ∀ (w : List Nat) (r s : Nat), run k r w = some s → run k' r w = some s
  | [], r, s, e => e
  | c :: w, r, s, e => by
    unfold run at e ⊢
    cases g : k r c with
    | none => rw [g] at e; cases e
    | some t =>
      rw [g] at e
      rw [h r c t g]
      exact run_le h w t s e
theorem run_snoc (k : Lk) : ∀ (w : List Nat) (c r : Nat), run k r (w ++ [c]) = (run k r w).bind fun s => k s c
  | [], c, r => by
    simp only [List.nil_append, run, Option.bind_some]
    cases k r c <;> rfl
  | d :: w, c, r => by
    simp only [List.cons_append, run]
    cases g : k r d with
    | none => rfl
    | some t => simp only [Option.bind_some]; exact run_snoc k w c t
theorem rw_le {k k' : Lk} (h : k.le k') {w : List Nat} (d : (run k 0 w).isSome = true) : rwN k' w = rwN k w := by
  obtain ⟨s, e⟩ := Option.isSome_iff_exists.mp d
  unfold rwN
  rw [e, run_le h w 0 s e]
theorem put_le {k : Lk} {r c v : Nat} (h : k r c = none ∨ k r c = some v) : k.le (k.put r c v) := by
  intro r' c' s e
  unfold Lk.put
  by_cases q : r' = r ∧ c' = c
  · obtain ⟨rfl, rfl⟩ := q
    rw [if_pos ⟨rfl, rfl⟩]
    rcases h with h | h
    · rw [h] at e; cases e
    · rw [h] at e; exact e
  · rw [if_neg q]; exact e
/-- the first of ws that is in R and leads to r -/
def fstW (k : Lk) (ws R : List (List Nat)) (r : Nat) : Option (List Nat) := ws.find? fun w => decide (w ∈ R) && decide (rwN k w = r)
def usd (k : Lk) (ws : List (List Nat)) : Nat := (ws.map fun w => rwN k w + 1).foldl max 0
def gv (k : Lk) (w : List Nat) : List Key × V := (ky w, .int ((rwN k w : Nat) : Int))
def lkOk (H : Hp) (l : Addr) (n : Nat) (k : Lk) : Prop := ∃ m, H l = some (.dT m) ∧ m.length ≤ n ∧ ∀ r c : Nat, valV m [Sum.inl (r : Int), Sum.inl (c : Int)] = (k r c).map fun v => V.int ((v : Nat) : Int)
def atOk (H : Hp) (d : Addr) (k : Lk) (ws R : List (List Nat)) : Prop := ∃ m, H d = some (.dK m) ∧ m.length ≤ ws.length ∧ ∀ r : Nat, match fstW k ws R r with
  | none => valV m (Sum.inl (r : Int)) = none
  | some w => ∃ v, valV m (Sum.inl (r : Int)) = some v ∧ DV H v (wd w)
structure Ad where
  (p dx g l r w : Addr)
def Ad.fp (a : Ad) : List Addr := [a.p, a.g, a.l, a.r, a.w]
abbrev rfs (g l u r w : V) : List (Str × V) := [(("given" : Str), g), (("links" : Str), l), (("used" : Str), u), (("right_at" : Str), r), (("wrong_at" : Str), w)]
abbrev rf (a : Ad) (u : Nat) : List (Str × V) := rfs (.ref a.g) (.ref a.l) (.int ((u : Nat) : Int)) (.ref a.r) (.ref a.w)
structure SI (CR : Addr) (H : Hp) (a : Ad) (k : Lk) (ws R W : List (List Nat)) : Prop where
  obj : H a.p = some (.ins CR a.dx (rf a (usd k ws)))
  giv : H a.g = some (.dT (ws.map (gv k)))
  all : ∀ w ∈ ws, (run k 0 w).isSome = true
  nd : ws.Nodup
  few : ws.length ≤ 1000
  lks : lkOk H a.l ws.length k
  ra : atOk H a.r k ws R
  wa : atOk H a.w k ws W
  gl : a.g ≠ a.l
  rw : a.r ≠ a.w
/-- all but these stays -/
def Out (l : List Addr) (H H' : Hp) : Prop := ∀ b o, b ∉ l → H b = some o → H' b = some o
theorem n12 : ("given" : Str) ≠ "links" := by decide +kernel
theorem n13 : ("given" : Str) ≠ "used" := by decide +kernel
theorem n14 : ("given" : Str) ≠ "right_at" := by decide +kernel
theorem n15 : ("given" : Str) ≠ "wrong_at" := by decide +kernel
theorem n23 : ("links" : Str) ≠ "used" := by decide +kernel
theorem n24 : ("links" : Str) ≠ "right_at" := by decide +kernel
theorem n25 : ("links" : Str) ≠ "wrong_at" := by decide +kernel
theorem n34 : ("used" : Str) ≠ "right_at" := by decide +kernel
theorem n35 : ("used" : Str) ≠ "wrong_at" := by decide +kernel
theorem n45 : ("right_at" : Str) ≠ "wrong_at" := by decide +kernel
abbrev fG (v : V) : Str × V := (("given" : Str), v)
abbrev fL (v : V) : Str × V := (("links" : Str), v)
abbrev fU (v : V) : Str × V := (("used" : Str), v)
abbrev fR (v : V) : Str × V := (("right_at" : Str), v)
abbrev fW (v : V) : Str × V := (("wrong_at" : Str), v)
theorem pi2 {g l : V} : putF "links" l (putF "given" g []) = [fG g, fL l] := by simp [putF, n12]
theorem pi3 {g l u : V} : putF "used" u [fG g, fL l] = [fG g, fL l, fU u] := by simp [putF, n13, n23]
theorem pi4 {g l u r : V} : putF "right_at" r [fG g, fL l, fU u] = [fG g, fL l, fU u, fR r] := by simp [putF, n14, n24, n34]
theorem pi5 {g l u r w : V} : putF "wrong_at" w [fG g, fL l, fU u, fR r] = [fG g, fL l, fU u, fR r, fW w] := by simp [putF, n15, n25, n35, n45]
theorem pG {g l u r w v : V} : putF "given" v [fG g, fL l, fU u, fR r, fW w] = [fG v, fL l, fU u, fR r, fW w] := by simp [putF]
theorem pL {g l u r w v : V} : putF "links" v [fG g, fL l, fU u, fR r, fW w] = [fG g, fL v, fU u, fR r, fW w] := by simp [putF, n12]
theorem pU {g l u r w v : V} : putF "used" v [fG g, fL l, fU u, fR r, fW w] = [fG g, fL l, fU v, fR r, fW w] := by simp [putF, n13, n23]
theorem pR {g l u r w v : V} : putF "right_at" v [fG g, fL l, fU u, fR r, fW w] = [fG g, fL l, fU u, fR v, fW w] := by simp [putF, n14, n24, n34]
theorem pW {g l u r w v : V} : putF "wrong_at" v [fG g, fL l, fU u, fR r, fW w] = [fG g, fL l, fU u, fR r, fW v] := by simp [putF, n15, n25, n35, n45]
theorem lkG {g l u r w : V} : List.lookup ("given" : Str) [fG g, fL l, fU u, fR r, fW w] = some g := by simp [List.lookup]
theorem lkL {g l u r w : V} : List.lookup ("links" : Str) [fG g, fL l, fU u, fR r, fW w] = some l := by simp [List.lookup, show (("links" : Str) == "given") = false by decide +kernel]
theorem lkU {g l u r w : V} : List.lookup ("used" : Str) [fG g, fL l, fU u, fR r, fW w] = some u := by simp [List.lookup, show (("used" : Str) == "given") = false by decide +kernel, show (("used" : Str) == "links") = false by decide +kernel]
theorem lkR {g l u r w : V} : List.lookup ("right_at" : Str) [fG g, fL l, fU u, fR r, fW w] = some r := by simp [List.lookup, show (("right_at" : Str) == "given") = false by decide +kernel, show (("right_at" : Str) == "links") = false by decide +kernel, show (("right_at" : Str) == "used") = false by decide +kernel]
theorem lkW {g l u r w : V} : List.lookup ("wrong_at" : Str) [fG g, fL l, fU u, fR r, fW w] = some w := by simp [List.lookup, show (("wrong_at" : Str) == "given") = false by decide +kernel, show (("wrong_at" : Str) == "links") = false by decide +kernel, show (("wrong_at" : Str) == "used") = false by decide +kernel, show (("wrong_at" : Str) == "right_at") = false by decide +kernel]
def spInit (CR : Addr) : Sp := fun vs H Q _ => ∃ p dx, vs = [.ref p] ∧ H p = some (.ins CR dx []) ∧ ∀ (a : Ad) (H' : Hp), a.p = p → (∀ R W, SI CR H' a (fun _ _ => none) [] R W) → Keep p H H' → (∀ b ∈ a.fp, b = p ∨ H b = none) → Q .non H'
section
variable {P : Program} {w : World} {K : PySem.W.Frag} {mg : Str → Option Value} {base : Heap} {CR : Addr}
abbrev s_r_init : Stmt := inClass (top 11) 0
theorem sc_r_init : FnScope ["self"] ["self"] (defScope s_r_init) := ⟨rfl, rfl, rfl, by decide +kernel, rfl, by decide +kernel, by decide +kernel⟩

theorem ok_r_init {f : Addr} {fd : FuncData} (F : Fun K "__init__" "RowState.__init__" s_r_init f fd) (T : Txt K mg CR) : FnOk P w K mg base CX0 1 f fd ["self"] (spInit CR) := by
  refine F.ok sc_r_init (fun vs H Q E h => ?_) (fun cdv A outer s H vs Q E hr h => ?_)
  · obtain ⟨p, dx, rfl, _⟩ := h
    rfl
  obtain ⟨p, dx, rfl, hp, k⟩ := h
  refine ⟨_, (pss_cons (ps_fld (pv 0) pe_dnewT rfl)
    (pss_cons (ps_fld (pv 0) pe_dnewT rfl)
    (pss_cons (ps_fld (pv 0) pe_int rfl)
    (pss_cons (ps_fld (pv 0) pe_dnewK rfl)
    (pss_one (ps_fld (pv 0) pe_dnewK rfl)))))), ?_⟩
  intro g hg
  have gp : g ≠ p := fun z => by rw [z, hp] at hg; cases hg
  refine ⟨_, rfl, p, CR, dx, _, rfl, by rw [upd_ne (Ne.symm gp)]; exact hp, T.cl, T.nG, (by show 0 < 1000; decide), fun l hl => ?_⟩
  have lp : l ≠ p := fun z => by rw [z, upd_same] at hl; cases hl
  have lg : l ≠ g := fun z => by rw [z, upd_ne gp, upd_same] at hl; cases hl
  refine ⟨_, rfl, p, CR, dx, _, rfl, by rw [upd_ne (Ne.symm lp), upd_same], T.cl, T.nL, (by show 1 < 1000; decide), ?_⟩
  rw [pi2]
  refine ⟨_, rfl, p, CR, dx, _, rfl, upd_same, T.cl, T.nU, (by show 2 < 1000; decide), fun r hr' => ?_⟩
  rw [pi3] at hr' ⊢
  have rp : r ≠ p := fun z => by rw [z, upd_same] at hr'; cases hr'
  refine ⟨_, rfl, p, CR, dx, _, rfl, by rw [upd_ne (Ne.symm rp), upd_same], T.cl, T.nR, (by show 3 < 1000; decide), fun w hw => ?_⟩
  rw [pi4] at hw ⊢
  have wp : w ≠ p := fun z => by rw [z, upd_same] at hw; cases hw
  refine ⟨_, rfl, p, CR, dx, _, rfl, by rw [upd_ne (Ne.symm wp), upd_same], T.cl, T.nW, (by show 4 < 1000; decide), ?_⟩
  rw [pi5]
  have hl0 : H l = none := by rw [upd_ne lp, upd_ne lg] at hl; exact hl
  have rl : r ≠ l := fun z => by rw [z, upd_ne lp, upd_ne lp, upd_same] at hr'; cases hr'
  have rg : r ≠ g := fun z => by rw [z, upd_ne gp, upd_ne gp, upd_ne (Ne.symm lg), upd_ne gp, upd_same] at hr'; cases hr'
  have hr0 : H r = none := by rw [upd_ne rp, upd_ne rp, upd_ne rl, upd_ne rp, upd_ne rg] at hr'; exact hr'
  have wr : w ≠ r := fun z => by rw [z, upd_ne rp, upd_same] at hw; cases hw
  have wl : w ≠ l := fun z => by rw [z, upd_ne lp, upd_ne (Ne.symm rl), upd_ne lp, upd_ne lp, upd_same] at hw; cases hw
  have wg : w ≠ g := fun z => by rw [z, upd_ne gp, upd_ne (Ne.symm rg), upd_ne gp, upd_ne gp, upd_ne (Ne.symm lg), upd_ne gp, upd_same] at hw; cases hw
  have hw0 : H w = none := by rw [upd_ne wp, upd_ne wr, upd_ne wp, upd_ne wp, upd_ne wl, upd_ne wp, upd_ne wg] at hw; exact hw
  refine k ⟨p, dx, g, l, r, w⟩ _ rfl (fun R W => ⟨upd_same, ?_, by simp, List.nodup_nil, by simp, ⟨[], ?_, by simp, fun _ _ => rfl⟩, ⟨[], ?_, by simp, fun _ => rfl⟩, ⟨[], ?_, by simp, fun _ => rfl⟩, Ne.symm lg, Ne.symm wr⟩) (fun b o nb e => ?_) (fun b hb => ?_)
  · simp only [upd_ne gp, upd_ne (Ne.symm wg), upd_ne (Ne.symm rg), upd_ne (Ne.symm lg), upd_same]
    rfl
  · simp only [upd_ne lp, upd_ne (Ne.symm wl), upd_ne (Ne.symm rl), upd_same]
  · simp only [upd_ne rp, upd_ne (Ne.symm wr), upd_same]
  · simp only [upd_ne wp, upd_same]
  · simp only [upd_ne nb, upd_ne (ne_of_none e hw0), upd_ne (ne_of_none e hr0), upd_ne (ne_of_none e hl0), upd_ne (ne_of_none e hg)]
    exact e
  · simp only [Ad.fp, List.mem_cons, List.not_mem_nil, or_false] at hb
    rcases hb with rfl | rfl | rfl | rfl | rfl
    · exact .inl rfl
    · exact .inr hg
    · exact .inr hl0
    · exact .inr hr0
    · exact .inr hw0
end
end Toy

set_option Elab.async false
set_option linter.all false
set_option maxRecDepth 100000
set_option maxHeartbeats 4000000
namespace Toy
open PySem L2
def lst (w : List Nat) : Nat := w.getLast?.getD 0
def forcedN (k : Lk) (w : List Nat) : Option Nat := if w = [] then some 0 else k (rwN k w.dropLast) (lst w)
def optV : Option Nat → V
  | none => .non
  | some s => .int ((s : Nat) : Int)
def spForced (CR : Addr) : Sp := fun vs H Q _ => ∃ a k ws R W v w, vs = [.ref a.p, v] ∧ SI CR H a k ws R W ∧ DV H v (wd w) ∧ (w = [] ∨ w.dropLast ∈ ws) ∧ ∀ H', Same H H' → Q (optV (forcedN k w)) H'
theorem val_given {k : Lk} {ws : List (List Nat)} {w : List Nat} (h : w ∈ ws) : valV (ws.map (gv k)) (ky w) = some (.int ((rwN k w : Nat) : Int)) := by
  induction ws with
  | nil => cases h
  | cons u ws ih =>
    rw [List.map_cons]
    by_cases e : u = w
    · subst e; exact valV_pos rfl
    · rw [valV_neg (fun z => e (ky_inj z))]
      exact ih ((List.mem_cons.mp h).resolve_left fun z => e z.symm)
theorem val_given_no {k : Lk} {ws : List (List Nat)} {w : List Nat} (h : w ∉ ws) : valV (ws.map (gv k)) (ky w) = none := by
  induction ws with
  | nil => rfl
  | cons u ws ih =>
    rw [List.map_cons, valV_neg (fun z => h (by rw [← ky_inj z]; exact List.mem_cons_self))]
    exact ih fun m => h (List.mem_cons_of_mem _ m)
theorem word_split {w : List Nat} (h : w ≠ []) : w = w.dropLast ++ [lst w] := by
  unfold lst
  rw [List.getLast?_eq_some_getLast h]
  exact (List.dropLast_concat_getLast h).symm
theorem at_last {w : List Nat} (h : w ≠ []) : atI (w.map fun c : Nat => V.int (c : Int)) (-1) = some (.int ((lst w : Nat) : Int)) := by
  have e := word_split h
  generalize w.dropLast = u at e
  generalize lst w = c at e
  subst e
  unfold atI ixN
  rw [List.map_append, List.length_append, List.length_map]
  simp
  rw [if_pos (by omega)]
  show (List.map _ u ++ [_])[(-1 + ((u.length : Int) + 1)).toNat]? = _
  rw [show (-1 + ((u.length : Int) + 1)).toNat = u.length by omega, List.getElem?_append_right (by simp)]
  simp
section
variable {P : Program} {w : World} {K : PySem.W.Frag} {mg : Str → Option Value} {base : Heap} {CR : Addr}
abbrev s_r_forced : Stmt := inClass (top 11) 2
theorem sc_r_forced : FnScope ["self", "word"] ["self", "word"] (defScope s_r_forced) := ⟨rfl, rfl, rfl, by decide +kernel, rfl, by decide +kernel, by decide +kernel⟩

theorem ok_r_forced {f : Addr} {fd : FuncData} (F : Fun K "forced" "RowState.forced" s_r_forced f fd) (T : Txt K mg CR) : FnOk P w K mg base CX0 1 f fd ["self", "word"] (spForced CR) := by
  refine F.ok sc_r_forced (fun vs H Q E h => ?_) (fun cdv A outer s H vs Q E hr h => ?_)
  · obtain ⟨a, k, ws, R, W, v, w, rfl, _⟩ := h
    rfl
  obtain ⟨a, lk, ws, R, W, v, w, rfl, S, hv, hw, k⟩ := h
  obtain ⟨q, rfl, hq⟩ := hv.word
  refine ⟨_, (pss_cons (ps_if (pt_not (pt_truth (pv 1) (by intro _; rfl))) (pss_one (ps_ret pe_int)) pss_nil)
    (pss_one (ps_ret (pe_dget1 (hu_b hr) (pe_fld (pv 0) rfl) (pe_tup (pa_cons (pe_dget (hu_b hr) (pe_fld (pv 0) rfl) (pe_slice sl_tupB (pv 1) po_none (po_some (pe_un un_neg pe_int))) (fun _ _ => rfl)) (pa_cons (pe_ix ix_tup (pv 1) (pe_un un_neg pe_int) (fun _ _ => rfl)) pa_nil))) ⟨by rfl, by rfl, by rfl, by rfl⟩)))), ?_⟩
  refine ⟨_, rfl, _, .inr (.inl ⟨_, SqT.of hq, rfl⟩), ?_⟩
  by_cases hw0 : w = []
  · subst hw0
    have e : forcedN lk [] = some 0 := rfl
    refine ifT rfl ?_
    have := k H (Same.refl H)
    rw [e] at this
    exact this
  · have hne : (w.map fun c : Nat => V.int (c : Int)).isEmpty = false := by
      cases w with
      | nil => exact absurd rfl hw0
      | cons c r => rfl
    refine ifF (by rw [hne]; decide) ?_
    have hpre := hw.resolve_left hw0
    obtain ⟨m, hm, ml, mv⟩ := S.lks
    refine ⟨_, rfl, a.p, CR, a.dx, _, _, rfl, S.obj, T.cl, T.nL, lkL, a.l, rfl, .inr ⟨m, .inl hm⟩, ?_⟩
    refine ⟨_, rfl, a.p, CR, a.dx, _, _, rfl, S.obj, T.cl, T.nG, lkG, _, rfl, _, rfl, _, rfl, q, _, rfl, hq, fun b H1 s1 hb => ?_⟩
    have hb' : H1 b = some (.tup ((ky w.dropLast).map kV)) := by
      rw [hb, ky_vs, show (-(1 : Int)) = -1 by rfl, cutV_last, List.map_dropLast]
    have dg := DGet.t (s1 _ _ S.giv) hb'
    rw [val_given hpre] at dg
    refine ⟨a.g, _, rfl, dg, ?_⟩
    refine ⟨_, rfl, _, rfl, q, _, _, _, rfl, rfl, SqT.of (s1 _ _ hq), at_last hw0, by show 2 ≤ sizeLine; decide, fun t ht => ?_⟩
    have kt : upd H1 t (.tup [.int ((rwN lk w.dropLast : Nat) : Int), .int ((lst w : Nat) : Int)]) t = some (.tup (([Sum.inl ((rwN lk w.dropLast : Nat) : Int), Sum.inl ((lst w : Nat) : Int)] : List Key).map kV)) := upd_same
    have hm1 := s1 _ _ hm
    refine ⟨_, DGet.t (by rw [upd_ne (ne_of_none hm1 ht)]; exact hm1) kt, ?_⟩
    rw [mv]
    have e : forcedN lk w = lk (rwN lk w.dropLast) (lst w) := by unfold forcedN; rw [if_neg hw0]
    have := k (upd H1 t (.tup [.int ((rwN lk w.dropLast : Nat) : Int), .int ((lst w : Nat) : Int)])) (s1.trans (Same.upd ht))
    rw [e] at this
    cases g : lk (rwN lk w.dropLast) (lst w) with
    | none => rw [g] at this; exact this
    | some z => rw [g] at this; exact this
end
end Toy

set_option Elab.async false
set_option linter.all false
set_option maxRecDepth 100000
set_option maxHeartbeats 4000000
namespace Toy
open PySem L2
def atM (H : Hp) (m : List (Key × V)) (k : Lk) (ws R : List (List Nat)) : Prop := m.length ≤ ws.length ∧ ∀ r : Nat, match fstW k ws R r with
  | none => valV m (Sum.inl (r : Int)) = none
  | some w => ∃ v, valV m (Sum.inl (r : Int)) = some v ∧ DV H v (wd w)
theorem atOk_iff {H : Hp} {d : Addr} {k : Lk} {ws R : List (List Nat)} : atOk H d k ws R ↔ ∃ m, H d = some (.dK m) ∧ atM H m k ws R := Iff.rfl
theorem atM.mono {H H' : Hp} (t : Tups H H') {m : List (Key × V)} {k : Lk} {ws R : List (List Nat)} (h : atM H m k ws R) : atM H' m k ws R := by
  refine ⟨h.1, fun r => ?_⟩
  have := h.2 r
  cases e : fstW k ws R r with
  | none => rw [e] at this; exact this
  | some w => rw [e] at this; obtain ⟨v, h1, h2⟩ := this; exact ⟨v, h1, h2.mono t⟩
theorem atM.is {H : Hp} {m : List (Key × V)} {k : Lk} {ws R : List (List Nat)} (h : atM H m k ws R) (r : Nat) : (valV m (Sum.inl (r : Int))).isSome = (fstW k ws R r).isSome := by
  have := h.2 r
  cases e : fstW k ws R r with
  | none => rw [e] at this; have this : valV m (Sum.inl (r : Int)) = none := this; rw [this]; rfl
  | some w => rw [e] at this; obtain ⟨v, h1, h2⟩ := this; rw [h1]; rfl
theorem find_congr {α : Type} {p q : α → Bool} : ∀ {l : List α}, (∀ x ∈ l, p x = q x) → l.find? p = l.find? q
  | [], _ => rfl
  | a :: l, h => by
    rw [List.find?_cons, List.find?_cons, h a List.mem_cons_self, find_congr fun x m => h x (List.mem_cons_of_mem _ m)]
theorem fstW_snoc {k k' : Lk} {ws R : List (List Nat)} {w : List Nat} {s : Nat} (le : k.le k') (all : ∀ u ∈ ws, (run k 0 u).isSome = true) (hs : rwN k' w = s) (r : Nat) :
    fstW k' (ws ++ [w]) R r = (fstW k ws R r).or (if w ∈ R ∧ s = r then some w else none) := by
  unfold fstW
  rw [List.find?_append]
  congr 1
  · exact find_congr fun u m => by rw [rw_le le (all u m)]
  · rw [List.find?_cons, List.find?_nil, hs]
    by_cases h : w ∈ R ∧ s = r
    · simp [h.1, h.2]
    · rw [if_neg h]
      have : (decide (w ∈ R) && decide (s = r)) = false := by
        rw [Bool.and_eq_false_iff]
        by_cases c : w ∈ R
        · exact .inr (decide_eq_false fun q => h ⟨c, q⟩)
        · exact .inl (decide_eq_false c)
      rw [this]
theorem atM_step {H : Hp} {m : List (Key × V)} {k k' : Lk} {ws R : List (List Nat)} {w : List Nat} {s : Nat} {v : V} (h : atM H m k ws R) (le : k.le k') (all : ∀ u ∈ ws, (run k 0 u).isSome = true) (hs : rwN k' w = s) (hv : DV H v (wd w)) :
    (w ∈ R ∧ (valV m (Sum.inl (s : Int))).isSome = false → atM H (putK m (Sum.inl (s : Int)) v) k' (ws ++ [w]) R) ∧ (¬ (w ∈ R ∧ (valV m (Sum.inl (s : Int))).isSome = false) → atM H m k' (ws ++ [w]) R) := by
  refine ⟨fun c => ⟨?_, fun r => ?_⟩, fun c => ⟨?_, fun r => ?_⟩⟩
  · have := length_putK m (Sum.inl (s : Int)) v
    have := h.1
    rw [List.length_append, List.length_singleton]; omega
  · rw [fstW_snoc le all hs, valV_put]
    have hr := h.2 r
    have is := h.is r
    by_cases e : s = r
    · subst e
      rw [c.2] at is
      have fn : fstW k ws R s = none := Option.isSome_eq_false_iff.mp is.symm |> fun z => by simpa using z
      rw [fn, if_pos ⟨c.1, rfl⟩]
      exact ⟨v, by rw [if_pos rfl], hv⟩
    · rw [if_neg (fun z => e z.2)]
      have ne : ¬ (Sum.inl (r : Int) : Key) = Sum.inl (s : Int) := fun z => e (by injection z with z; omega)
      rw [if_neg ne]
      cases f : fstW k ws R r with
      | none => rw [f] at hr; exact hr
      | some u => rw [f] at hr; exact hr
  · have := h.1
    rw [List.length_append]; omega
  · rw [fstW_snoc le all hs]
    have hr := h.2 r
    have is := h.is r
    cases f : fstW k ws R r with
    | some u => rw [f] at hr; exact hr
    | none =>
      rw [f] at hr is
      have no : ¬ (w ∈ R ∧ s = r) := fun z => c ⟨z.1, by rw [z.2]; exact is⟩
      rw [if_neg no]
      exact hr
/-- what stands at the state's addresses -/
structure Raw (CR : Addr) (H : Hp) (a : Ad) (u : Nat) (G m : List (List Key × V)) (mr mw : List (Key × V)) : Prop where
  obj : H a.p = some (.ins CR a.dx (rf a u))
  giv : H a.g = some (.dT G)
  lks : H a.l = some (.dT m)
  ra : H a.r = some (.dK mr)
  wa : H a.w = some (.dK mw)
  gl : a.g ≠ a.l
  rw : a.r ≠ a.w
section
variable {CR : Addr} {H : Hp} {a : Ad} {u : Nat} {G m : List (List Key × V)} {mr mw : List (Key × V)}
theorem Raw.pg (h : Raw CR H a u G m mr mw) : a.p ≠ a.g := ne_of h.obj h.giv (fun z => nomatch z)
theorem Raw.pl (h : Raw CR H a u G m mr mw) : a.p ≠ a.l := ne_of h.obj h.lks (fun z => nomatch z)
theorem Raw.pr (h : Raw CR H a u G m mr mw) : a.p ≠ a.r := ne_of h.obj h.ra (fun z => nomatch z)
theorem Raw.pw (h : Raw CR H a u G m mr mw) : a.p ≠ a.w := ne_of h.obj h.wa (fun z => nomatch z)
theorem Raw.gr (h : Raw CR H a u G m mr mw) : a.g ≠ a.r := ne_of h.giv h.ra (fun z => nomatch z)
theorem Raw.gw (h : Raw CR H a u G m mr mw) : a.g ≠ a.w := ne_of h.giv h.wa (fun z => nomatch z)
theorem Raw.lr (h : Raw CR H a u G m mr mw) : a.l ≠ a.r := ne_of h.lks h.ra (fun z => nomatch z)
theorem Raw.lw (h : Raw CR H a u G m mr mw) : a.l ≠ a.w := ne_of h.lks h.wa (fun z => nomatch z)
theorem Raw.setG (h : Raw CR H a u G m mr mw) (G' : List (List Key × V)) : Raw CR (upd H a.g (.dT G')) a u G' m mr mw :=
  ⟨by rw [upd_ne h.pg]; exact h.obj, upd_same, by rw [upd_ne (Ne.symm h.gl)]; exact h.lks, by rw [upd_ne (Ne.symm h.gr)]; exact h.ra, by rw [upd_ne (Ne.symm h.gw)]; exact h.wa, h.gl, h.rw⟩
theorem Raw.setL (h : Raw CR H a u G m mr mw) (m' : List (List Key × V)) : Raw CR (upd H a.l (.dT m')) a u G m' mr mw :=
  ⟨by rw [upd_ne h.pl]; exact h.obj, by rw [upd_ne h.gl]; exact h.giv, upd_same, by rw [upd_ne (Ne.symm h.lr)]; exact h.ra, by rw [upd_ne (Ne.symm h.lw)]; exact h.wa, h.gl, h.rw⟩
theorem Raw.setU (h : Raw CR H a u G m mr mw) (v : Nat) : Raw CR (upd H a.p (.ins CR a.dx (rf a v))) a v G m mr mw :=
  ⟨upd_same, by rw [upd_ne (Ne.symm h.pg)]; exact h.giv, by rw [upd_ne (Ne.symm h.pl)]; exact h.lks, by rw [upd_ne (Ne.symm h.pr)]; exact h.ra, by rw [upd_ne (Ne.symm h.pw)]; exact h.wa, h.gl, h.rw⟩
theorem Raw.setR (h : Raw CR H a u G m mr mw) (m' : List (Key × V)) : Raw CR (upd H a.r (.dK m')) a u G m m' mw :=
  ⟨by rw [upd_ne h.pr]; exact h.obj, by rw [upd_ne h.gr]; exact h.giv, by rw [upd_ne h.lr]; exact h.lks, upd_same, by rw [upd_ne (Ne.symm h.rw)]; exact h.wa, h.gl, h.rw⟩
theorem Raw.setW (h : Raw CR H a u G m mr mw) (m' : List (Key × V)) : Raw CR (upd H a.w (.dK m')) a u G m mr m' :=
  ⟨by rw [upd_ne h.pw]; exact h.obj, by rw [upd_ne h.gw]; exact h.giv, by rw [upd_ne h.lw]; exact h.lks, by rw [upd_ne h.rw]; exact h.ra, upd_same, h.gl, h.rw⟩
theorem Raw.same (h : Raw CR H a u G m mr mw) {H' : Hp} (s : Same H H') : Raw CR H' a u G m mr mw := ⟨s _ _ h.obj, s _ _ h.giv, s _ _ h.lks, s _ _ h.ra, s _ _ h.wa, h.gl, h.rw⟩
end
theorem Out.refl {l : List Addr} {H : Hp} : Out l H H := fun _ _ _ e => e
theorem Out.trans {l : List Addr} {H H1 H2 : Hp} (a : Out l H H1) (b : Out l H1 H2) : Out l H H2 := fun c o n e => b c o n (a c o n e)
theorem out_same {l : List Addr} {H H' : Hp} (s : Same H H') : Out l H H' := fun b o _ e => s b o e
theorem out_upd {l : List Addr} {H : Hp} {p : Addr} {o : HO} (h : p ∈ l) : Out l H (upd H p o) := fun b q nb e => by rw [upd_ne (fun z => nb (by rw [z]; exact h))]; exact e
theorem wd_deep (w : List Nat) : (wd w).deep ≤ 1 := by
  unfold wd Da.deep
  have : ∀ w : List Nat, Da.deeps (w.map fun c : Nat => Da.int (c : Int)) = 0 := by
    intro w
    induction w with
    | nil => simp [Da.deeps]
    | cons c w ih => rw [List.map_cons, Da.deeps, ih]; simp [Da.deep]
  rw [this w]
  omega
theorem mem_wd {w : List Nat} {R : List (List Nat)} : wd w ∈ R.map wd ↔ w ∈ R := ⟨fun h => by obtain ⟨u, hu, e⟩ := List.mem_map.mp h; rw [← wd_inj e]; exact hu, fun h => List.mem_map.mpr ⟨w, h, rfl⟩⟩
theorem put_fresh {κ : Type} [DecidableEq κ] {m : List (κ × V)} {k : κ} {v : V} (h : valV m k = none) : putK m k v = m ++ [(k, v)] := putK_new v h
theorem usd_snoc {k k' : Lk} {ws : List (List Nat)} {w : List Nat} (le : k.le k') (all : ∀ u ∈ ws, (run k 0 u).isSome = true) : usd k' (ws ++ [w]) = max (usd k ws) (rwN k' w + 1) := by
  unfold usd
  rw [List.map_append, List.foldl_append]
  have : ws.map (fun u => rwN k' u + 1) = ws.map fun u => rwN k u + 1 := List.map_congr_left fun u m => by rw [rw_le le (all u m)]
  rw [this]
  rfl
theorem given_snoc {k k' : Lk} {ws : List (List Nat)} {w : List Nat} (le : k.le k') (all : ∀ u ∈ ws, (run k 0 u).isSome = true) (h : w ∉ ws) : putK (ws.map (gv k)) (ky w) (.int ((rwN k' w : Nat) : Int)) = (ws ++ [w]).map (gv k') := by
  rw [put_fresh (val_given_no h), List.map_append]
  congr 1
  exact List.map_congr_left fun u m => by unfold gv; rw [rw_le le (all u m)]
/-- how a further word is given a row -/
structure Step (k k' : Lk) (ws : List (List Nat)) (w : List Nat) (s : Nat) : Prop where
  fresh : w ∉ ws
  nil : w = [] → s = 0 ∧ k' = k
  cons : w ≠ [] → w.dropLast ∈ ws ∧ k' = k.put (rwN k w.dropLast) (lst w) s ∧ (k (rwN k w.dropLast) (lst w) = none ∨ k (rwN k w.dropLast) (lst w) = some s)
theorem Step.le {k k' : Lk} {ws : List (List Nat)} {w : List Nat} {s : Nat} (h : Step k k' ws w s) : k.le k' := by
  by_cases e : w = []
  · rw [(h.nil e).2]; exact fun _ _ _ q => q
  · obtain ⟨_, rfl, q⟩ := h.cons e
    exact put_le q
theorem Step.run {k k' : Lk} {ws : List (List Nat)} {w : List Nat} {s : Nat} (h : Step k k' ws w s) (all : ∀ u ∈ ws, (run k 0 u).isSome = true) : run k' 0 w = some s := by
  by_cases e : w = []
  · subst e; rw [(h.nil rfl).1]; rfl
  · obtain ⟨m, ek, q⟩ := h.cons e
    obtain ⟨t, ht⟩ := Option.isSome_iff_exists.mp (all _ m)
    have r0 : rwN k w.dropLast = t := by unfold rwN; rw [ht]; rfl
    have le := h.le
    have z := word_split e
    rw [z, run_snoc, run_le le _ _ _ ht]
    show k' t (lst w) = some s
    rw [ek, r0]
    unfold Lk.put
    rw [if_pos ⟨rfl, rfl⟩]
def clash (k : Lk) (ws R W : List (List Nat)) (r : Nat) : Option (List Nat × List Nat) := match fstW k ws R r, fstW k ws W r with
  | some a, some b => some (a, b)
  | _, _ => none
def clashV (H : Hp) (x : V) : Option (List Nat × List Nat) → Prop
  | none => x = .non
  | some (a, b) => DV H x (.tup [wd a, wd b])
def sampD (R W : List (List Nat)) : Da := .tup [.tup (R.map wd), .tup (W.map wd)]
def spGive (CR : Addr) : Sp := fun vs H Q _ => ∃ a k k' ws R W v w s u, vs = [.ref a.p, v, .int ((s : Nat) : Int), u] ∧ SI CR H a k ws R W ∧ DV H v (wd w) ∧ DV H u (sampD R W) ∧ Step k k' ws w s ∧ ws.length < 1000 ∧
  ∀ x H', SI CR H' a k' (ws ++ [w]) R W → Out a.fp H H' → clashV H' x (clash k' (ws ++ [w]) R W s) → Q x H'
end Toy

set_option Elab.async false
set_option linter.all false
set_option maxRecDepth 100000
set_option maxHeartbeats 4000000
namespace Toy
open PySem L2
section
variable {P : Program} {w : World} {K : PySem.W.Frag} {mg : Str → Option Value} {base : Heap} {CR : Addr}
theorem samp_inv {H : Hp} {u : V} {R W : List (List Nat)} (h : DV H u (sampD R W)) : ∃ c cr cw rs ws, u = .ref c ∧ H c = some (.tup [.ref cr, .ref cw]) ∧ H cr = some (.tup rs) ∧ H cw = some (.tup ws) ∧ DVs H rs (R.map wd) ∧ DVs H ws (W.map wd) := by
  obtain ⟨c, xs, rfl, hc, hx⟩ := h.inv
  cases hx with
  | cons h1 h2 =>
    cases h2 with
    | cons h3 h4 =>
      cases h4
      obtain ⟨cr, rs, rfl, e1, d1⟩ := h1.inv
      obtain ⟨cw, ws, rfl, e2, d2⟩ := h3.inv
      exact ⟨c, cr, cw, rs, ws, rfl, hc, e1, e2, d1, d2⟩
theorem truW {K : PySem.W.Frag} {H : Hp} {q : Addr} {w : List Nat} (hq : H q = some (.tup (w.map fun c : Nat => V.int (c : Int)))) : TruV K (.ref q) H (decide (w ≠ [])) := by
  refine .inr (.inl ⟨_, SqT.of hq, ?_⟩)
  cases w <;> simp
abbrev s_r_give : Stmt := inClass (top 11) 3
theorem sc_r_give : FnScope ["self", "word", "row", "samples"] ["self", "word", "row", "samples"] (defScope s_r_give) := ⟨rfl, rfl, rfl, by decide +kernel, rfl, by decide +kernel, by decide +kernel⟩

theorem ok_r_give {f : Addr} {fd : FuncData} (F : Fun K "give" "RowState.give" s_r_give f fd) (T : Txt K mg CR) : FnOk P w K mg base CX0 1 f fd ["self", "word", "row", "samples"] (spGive CR) := by
  refine F.ok sc_r_give (fun vs H Q E h => ?_) (fun cdv A outer s H vs Q E hr h => ?_)
  · obtain ⟨a, k, k', ws, R, W, v, w, s, u, rfl, _⟩ := h
    rfl
  obtain ⟨a, lk, lk', ws, R, W, v, w, sr, u, rfl, S, hv, hu, st, few, k⟩ := h
  obtain ⟨q, rfl, hq⟩ := hv.word
  obtain ⟨c, cr, cw, rs, us, rfl, hc, hcr, hcw, dr, dw⟩ := samp_inv hu
  obtain ⟨m, hm, ml, mv⟩ := S.lks
  obtain ⟨mr, hmr, amr⟩ := S.ra
  obtain ⟨mw, hmw, amw⟩ := S.wa
  have amr : atM H mr lk ws R := amr
  have amw : atM H mw lk ws W := amw
  have run' := st.run S.all
  have rwn : rwN lk' w = sr := by unfold rwN; rw [run']; rfl
  have R0 : Raw CR H a (usd lk ws) (ws.map (gv lk)) m mr mw := ⟨S.obj, S.giv, hm, hmr, hmw, S.gl, S.rw⟩
  refine ⟨_, (pss_cons (ps_dput (hu_b hr) (pe_fld (pv 0) rfl) (pv 1) (pv 2) rfl)
    (C8.pss_cut (ps_if (pt_truth (pv 1) (by intro _; rfl)) (pss_one (ps_dput (hu_b hr) (pe_fld (pv 0) rfl) (pe_tup (pa_cons (pe_dget (hu_b hr) (pe_fld (pv 0) rfl) (pe_slice sl_tupB (pv 1) po_none (po_some (pe_un un_neg pe_int))) (fun _ _ => rfl)) (pa_cons (pe_ix ix_tup (pv 1) (pe_un un_neg pe_int) (fun _ _ => rfl)) pa_nil))) (pv 2) rfl)) pss_nil)
    (pss_cons (ps_fld (pv 0) (pe_callB (call_max2 rfl) (by rfl) T.z_max b_max (pa_cons (pe_fld (pv 0) rfl) (pa_cons (pe_op op_add (pv 2) pe_int) pa_nil))) rfl)
    (C8.pss_cut (ps_if (PW.pt (pw_and (pt_cmpR (op_inA (hu_a hr)) (pv 1) (pe_ix ix_tup (pv 3) pe_int (fun _ _ => rfl)) rfl) (pw_and1 (pt_cmp (pc_dnotin (hu_b hr) (pv 2) (pe_fld (pv 0) rfl)) rfl)))) (pss_one (ps_dput (hu_b hr) (pe_fld (pv 0) rfl) (pv 2) (pv 1) rfl)) pss_nil)
    (C8.pss_cut (ps_if (PW.pt (pw_and (pt_cmpR (op_inA (hu_a hr)) (pv 1) (pe_ix ix_tup (pv 3) pe_int (fun _ _ => rfl)) rfl) (pw_and1 (pt_cmp (pc_dnotin (hu_b hr) (pv 2) (pe_fld (pv 0) rfl)) rfl)))) (pss_one (ps_dput (hu_b hr) (pe_fld (pv 0) rfl) (pv 2) (pv 1) rfl)) pss_nil)
    (pss_cons (ps_if (PW.pt (pw_and (pt_cmp (pc_din (hu_b hr) (pv 2) (pe_fld (pv 0) rfl)) rfl) (pw_and1 (pt_cmp (pc_din (hu_b hr) (pv 2) (pe_fld (pv 0) rfl)) rfl)))) (pss_one (ps_ret (pe_tup (pa_cons (pe_dget (hu_b hr) (pe_fld (pv 0) rfl) (pv 2) (fun _ _ => rfl)) (pa_cons (pe_dget (hu_b hr) (pe_fld (pv 0) rfl) (pv 2) (fun _ _ => rfl)) pa_nil))))) pss_nil)
    (pss_one (ps_ret pe_non)))))))), ?_⟩
  have hq2 : H q = some (.tup ((ky w).map kV)) := by rw [ky_vs]; exact hq
  refine ⟨_, rfl, _, rfl, a.p, CR, a.dx, _, _, rfl, S.obj, T.cl, T.nG, lkG, _, rfl, a.g, _, rfl, .t S.giv hq2 (by rw [List.length_map]; exact small1000 (by omega)), ?_⟩
  rw [show V.int ((sr : Nat) : Int) = .int ((rwN lk' w : Nat) : Int) by rw [rwn], given_snoc st.le S.all st.fresh]
  have R1 := R0.setG ((ws ++ [w]).map (gv lk'))
  have nG : ∀ xs, H a.g ≠ some (.tup xs) := fun xs e => by rw [S.giv] at e; cases e
  generalize hH1 : upd H a.g (.dT ((ws ++ [w]).map (gv lk'))) = H1 at R1 ⊢
  have o1 : Out a.fp H H1 := by rw [← hH1]; exact out_upd (by simp [Ad.fp])
  have t1 : Tups H H1 := by rw [← hH1]; exact tups_upd nG
  rw [rwn]
  refine ⟨fun σ' H' => σ' = [some (.ref a.p), some (.ref q), some (.int ((sr : Nat) : Int)), some (.ref c)] ∧ Out a.fp H H' ∧ Tups H H' ∧ ∃ m', Raw CR H' a (usd lk ws) ((ws ++ [w]).map (gv lk')) m' mr mw ∧ m'.length ≤ ws.length + 1 ∧ ∀ r c : Nat, valV m' [Sum.inl (r : Int), Sum.inl (c : Int)] = (lk' r c).map fun v => V.int ((v : Nat) : Int), ?_, ?_⟩
  · have hq1 := t1 _ _ hq
    refine ⟨_, rfl, _, truW hq1, ?_⟩
    by_cases hw0 : w = []
    · refine ifF (by simp [hw0]) ⟨rfl, o1, t1, m, R1, by omega, ?_⟩
      rw [(st.nil hw0).2]
      exact mv
    · refine ifT (by simp [hw0]) ?_
      obtain ⟨hpre, ek, _⟩ := st.cons hw0
      refine ⟨_, rfl, _, rfl, a.p, CR, a.dx, _, _, rfl, R1.obj, T.cl, T.nL, lkL, ?_⟩
      refine ⟨_, rfl, a.p, CR, a.dx, _, _, rfl, R1.obj, T.cl, T.nG, lkG, _, rfl, _, rfl, _, rfl, q, _, rfl, hq1, fun b H2 s2 hb => ?_⟩
      have hb' : H2 b = some (.tup ((ky w.dropLast).map kV)) := by
        rw [hb, ky_vs, show (-(1 : Int)) = -1 by rfl, cutV_last, List.map_dropLast]
      have dg := DGet.t (s2 _ _ R1.giv) hb'
      rw [val_given (List.mem_append_left _ hpre), rw_le st.le (S.all _ hpre)] at dg
      refine ⟨a.g, _, rfl, dg, _, rfl, _, rfl, q, _, _, _, rfl, rfl, SqT.of (s2 _ _ hq1), at_last hw0, by show 2 ≤ sizeLine; decide, fun t ht => ?_⟩
      have s3 : Same H1 (upd H2 t (.tup [.int ((rwN lk w.dropLast : Nat) : Int), .int ((lst w : Nat) : Int)])) := s2.trans (Same.upd ht)
      have kt : upd H2 t (.tup [.int ((rwN lk w.dropLast : Nat) : Int), .int ((lst w : Nat) : Int)]) t = some (.tup (([Sum.inl ((rwN lk w.dropLast : Nat) : Int), Sum.inl ((lst w : Nat) : Int)] : List Key).map kV)) := upd_same
      generalize upd H2 t (.tup [.int ((rwN lk w.dropLast : Nat) : Int), .int ((lst w : Nat) : Int)]) = H3 at s3 kt ⊢
      have R3 := R1.same s3
      refine ⟨a.l, _, rfl, .t R3.lks kt (small1000 (by omega)), rfl, (o1.trans (out_same s3)).trans (out_upd (by simp [Ad.fp])), (t1.trans (same_tp s3)).trans (tups_upd fun xs e => by rw [R3.lks] at e; cases e), _, R3.setL _, ?_, fun r c => ?_⟩
      · have := length_putK m [Sum.inl ((rwN lk w.dropLast : Nat) : Int), Sum.inl ((lst w : Nat) : Int)] (V.int ((sr : Nat) : Int))
        omega
      · rw [valV_put, mv, ek]
        unfold Lk.put
        by_cases e : r = rwN lk w.dropLast ∧ c = lst w
        · obtain ⟨rfl, rfl⟩ := e
          rw [if_pos rfl, if_pos ⟨rfl, rfl⟩]
          rfl
        · rw [if_neg e, if_neg]
          intro z
          injection z with z1 z2
          injection z2 with z2 _
          exact e ⟨by injection z1 with z1; omega, by injection z2 with z2; omega⟩
  · rintro σ' H' ⟨rfl, o2, t2, m', R2, ml2, mv2⟩
    refine ⟨_, rfl, a.p, CR, a.dx, _, _, rfl, R2.obj, T.cl, T.nU, lkU, _, rfl, _, _, rfl, rfl, _, _, rfl, ?_⟩
    refine ⟨_, rfl, a.p, CR, a.dx, _, rfl, R2.obj, T.cl, T.nU, (by show 5 < 1000; decide), ?_⟩
    rw [pU]
    have eu : (if (sr : Int) + 1 > ((usd lk ws : Nat) : Int) then (sr : Int) + 1 else ((usd lk ws : Nat) : Int)) = ((usd lk' (ws ++ [w]) : Nat) : Int) := by
      rw [usd_snoc st.le S.all, rwn]
      split <;> omega
    rw [eu]
    have R3 := R2.setU (usd lk' (ws ++ [w]))
    have o3 : Out a.fp H' (upd H' a.p (.ins CR a.dx (rf a (usd lk' (ws ++ [w]))))) := out_upd (by simp [Ad.fp])
    have t3 : Tups H' (upd H' a.p (.ins CR a.dx (rf a (usd lk' (ws ++ [w]))))) := tups_upd fun xs e => by rw [R2.obj] at e; cases e
    generalize upd H' a.p (.ins CR a.dx (rf a (usd lk' (ws ++ [w])))) = H3 at R3 o3 t3 ⊢
    have oA := o2.trans o3
    have tA := t2.trans t3
    have vA : DV H3 (.ref q) (wd w) := hv.mono tA
    refine ⟨fun σ' H' => σ' = [some (.ref a.p), some (.ref q), some (.int ((sr : Nat) : Int)), some (.ref c)] ∧ Out a.fp H H' ∧ Tups H H' ∧ ∃ mr', Raw CR H' a (usd lk' (ws ++ [w])) ((ws ++ [w]).map (gv lk')) m' mr' mw ∧ atM H' mr' lk' (ws ++ [w]) R, ?_, ?_⟩
    · have step := atM_step (amr.mono tA) st.le S.all rwn vA
      refine ⟨_, rfl, _, rfl, c, _, _, _, rfl, rfl, SqT.of (tA _ _ hc), rfl, wd w, cr, rs, _, vA, rfl, .inl (tA _ _ hcr), dr.mono tA, Nat.le_trans (wd_deep w) (by decide), fun b hb => ⟨_, rfl, ?_⟩⟩
      rw [mem_wd] at hb
      refine ite2 (fun c1 => ?_) (fun c1 => ?_)
      · refine ⟨_, rfl, _, rfl, a.p, CR, a.dx, _, _, rfl, R3.obj, T.cl, T.nR, lkR, a.r, _, rfl, .k (k := Sum.inl ((sr : Nat) : Int)) R3.ra, _, rfl, ite2 (fun c2 => ?_) (fun c2 => ?_)⟩
        · refine ⟨_, rfl, _, rfl, a.p, CR, a.dx, _, _, rfl, R3.obj, T.cl, T.nR, lkR, _, rfl, a.r, _, rfl, .k (k := Sum.inl ((sr : Nat) : Int)) R3.ra (small1000 (by have := amr.1; omega)), ?_⟩
          have nr : ∀ xs, H3 a.r ≠ some (.tup xs) := fun xs e => by rw [R3.ra] at e; cases e
          exact ⟨rfl, oA.trans (out_upd (by simp [Ad.fp])), tA.trans (tups_upd nr), _, R3.setR _, (step.1 ⟨hb.mp c1, by simpa using c2⟩).mono (tups_upd nr)⟩
        · exact ⟨rfl, oA, tA, _, R3, step.2 fun z => by rw [z.2] at c2; exact c2 rfl⟩
      · exact ⟨rfl, oA, tA, _, R3, step.2 fun z => c1 (hb.mpr z.1)⟩
    · rintro σ' H4 ⟨rfl, oB, tB, mr', R4, am4⟩
      have vB : DV H4 (.ref q) (wd w) := hv.mono tB
      refine ⟨fun σ' H' => σ' = [some (.ref a.p), some (.ref q), some (.int ((sr : Nat) : Int)), some (.ref c)] ∧ Out a.fp H H' ∧ Tups H H' ∧ ∃ mw', Raw CR H' a (usd lk' (ws ++ [w])) ((ws ++ [w]).map (gv lk')) m' mr' mw' ∧ atM H' mr' lk' (ws ++ [w]) R ∧ atM H' mw' lk' (ws ++ [w]) W, ?_, ?_⟩
      · have step := atM_step (amw.mono tB) st.le S.all rwn vB
        refine ⟨_, rfl, _, rfl, c, _, _, _, rfl, rfl, SqT.of (tB _ _ hc), rfl, wd w, cw, us, _, vB, rfl, .inl (tB _ _ hcw), dw.mono tB, Nat.le_trans (wd_deep w) (by decide), fun b hb => ⟨_, rfl, ?_⟩⟩
        rw [mem_wd] at hb
        refine ite2 (fun c1 => ?_) (fun c1 => ?_)
        · refine ⟨_, rfl, _, rfl, a.p, CR, a.dx, _, _, rfl, R4.obj, T.cl, T.nW, lkW, a.w, _, rfl, .k (k := Sum.inl ((sr : Nat) : Int)) R4.wa, _, rfl, ite2 (fun c2 => ?_) (fun c2 => ?_)⟩
          · refine ⟨_, rfl, _, rfl, a.p, CR, a.dx, _, _, rfl, R4.obj, T.cl, T.nW, lkW, _, rfl, a.w, _, rfl, .k (k := Sum.inl ((sr : Nat) : Int)) R4.wa (small1000 (by have := amw.1; omega)), ?_⟩
            have nr : ∀ xs, H4 a.w ≠ some (.tup xs) := fun xs e => by rw [R4.wa] at e; cases e
            exact ⟨rfl, oB.trans (out_upd (by simp [Ad.fp])), tB.trans (tups_upd nr), _, R4.setW _, am4.mono (tups_upd nr), (step.1 ⟨hb.mp c1, by simpa using c2⟩).mono (tups_upd nr)⟩
          · exact ⟨rfl, oB, tB, _, R4, am4, step.2 fun z => by rw [z.2] at c2; exact c2 rfl⟩
        · exact ⟨rfl, oB, tB, _, R4, am4, step.2 fun z => c1 (hb.mpr z.1)⟩
      · rintro σ' H5 ⟨rfl, oC, tC, mw', R5, amr5, amw5⟩
        have SI' : ∀ {H6 : Hp}, Same H5 H6 → SI CR H6 a lk' (ws ++ [w]) R W := fun {H6} s6 => by
          have R6 := R5.same s6
          refine ⟨R6.obj, R6.giv, fun u hu => ?_, ?_, by rw [List.length_append, List.length_singleton]; omega, ⟨_, R6.lks, by rw [List.length_append, List.length_singleton]; omega, mv2⟩, ⟨_, R6.ra, amr5.mono (same_tp s6)⟩, ⟨_, R6.wa, amw5.mono (same_tp s6)⟩, R6.gl, R6.rw⟩
          · rcases List.mem_append.mp hu with z | z
            · obtain ⟨t, ht⟩ := Option.isSome_iff_exists.mp (S.all u z)
              rw [run_le st.le _ _ _ ht]; rfl
            · rw [List.mem_singleton.mp z, run']; rfl
          · exact List.nodup_append.mpr ⟨S.nd, by simp, fun x hx b hb e => by simp at hb; subst hb; subst e; exact st.fresh hx⟩
        refine ⟨_, rfl, _, rfl, a.p, CR, a.dx, _, _, rfl, R5.obj, T.cl, T.nR, lkR, a.r, _, rfl, .k (k := Sum.inl ((sr : Nat) : Int)) R5.ra, _, rfl, ?_⟩
        have isr := amr5.is sr
        have isw := amw5.is sr
        have hr2 := amr5.2 sr
        have hw2 := amw5.2 sr
        cases fr : fstW lk' (ws ++ [w]) R sr with
        | none =>
          rw [fr] at isr
          refine ifF (by rw [isr]; decide) ?_
          refine k _ H5 (SI' (Same.refl _)) oC ?_
          unfold clash
          rw [fr]
          rfl
        | some w1 =>
          rw [fr] at isr hr2
          obtain ⟨v1, hv1, d1⟩ := hr2
          refine ifT (by rw [isr]; rfl) ⟨_, rfl, _, rfl, a.p, CR, a.dx, _, _, rfl, R5.obj, T.cl, T.nW, lkW, a.w, _, rfl, .k (k := Sum.inl ((sr : Nat) : Int)) R5.wa, _, rfl, ?_⟩
          cases fw : fstW lk' (ws ++ [w]) W sr with
          | none =>
            rw [fw] at isw
            refine ifF (by rw [isw]; decide) ?_
            refine k _ H5 (SI' (Same.refl _)) oC ?_
            unfold clash
            rw [fr, fw]
            rfl
          | some w2 =>
            rw [fw] at isw hw2
            obtain ⟨v2, hv2, d2⟩ := hw2
            refine ifT (by rw [isw]; rfl) ?_
            have g1 := DGet.k (k := Sum.inl ((sr : Nat) : Int)) R5.ra
            have g2 := DGet.k (k := Sum.inl ((sr : Nat) : Int)) R5.wa
            rw [hv1] at g1
            rw [hv2] at g2
            refine ⟨_, rfl, a.p, CR, a.dx, _, _, rfl, R5.obj, T.cl, T.nR, lkR, _, rfl, a.r, _, rfl, g1, _, rfl, a.p, CR, a.dx, _, _, rfl, R5.obj, T.cl, T.nW, lkW, _, rfl, a.w, _, rfl, g2, by show 2 ≤ sizeLine; decide, fun z hz => ?_⟩
            have s6 : Same H5 (upd H5 z (.tup [v1, v2])) := Same.upd hz
            refine k _ _ (SI' s6) (oC.trans (out_same s6)) ?_
            unfold clash
            rw [fr, fw]
            exact .tup upd_same (.cons (d1.mono (same_tp s6)) (.cons (d2.mono (same_tp s6)) .nil))
end
end Toy

set_option Elab.async false
set_option linter.all false
set_option maxRecDepth 100000
set_option maxHeartbeats 4000000
namespace Toy
open PySem L2
theorem pgK_tup {X : Cx} (K : PySem.W.Frag) (hK : X.K = K) (hc : X.calm = true) {es : List Expr} {k : Nat} {pos : Pos} {t : TGs} {n : Nat} (h : PGs X es t) (hn : (assignEach es X.env).length = n := by rfl) (hst : (assignEach es X.env).findIdx? (·.1) = none := by rfl) : PG X (.Tuple es k pos) (gTup K n t) := by
  subst hK
  exact pg_tup hc h hn hst
def spCopied (CR : Addr) : Sp := fun vs H Q _ => ∃ a k ws R W, vs = [.ref a.p] ∧ SI CR H a k ws R W ∧ ∀ (a' : Ad) H', Same H H' → SI CR H' a' k ws R W → (∀ b ∈ a'.fp, H b = none) → Q (.ref a'.p) H'
section
variable {P : Program} {w : World} {K : PySem.W.Frag} {mg : Str → Option Value} {base : Heap} {CR : Addr}
abbrev s_r_copied : Stmt := inClass (top 11) 1
theorem sc_r_copied : FnScope ["self", "made", "word", "row", "key"] ["self"] (defScope s_r_copied) := ⟨rfl, rfl, rfl, by decide +kernel, rfl, by decide +kernel, by decide +kernel⟩

theorem ok_r_copied {f : Addr} {fd : FuncData} (F : Fun K "copied" "RowState.copied" s_r_copied f fd) (T : Txt K mg CR) (N_RowState : MakX P w K mg base CX0 1 "RowState" CR (spInit CR)) : FnOk P w K mg base CX0 3 f fd ["self"] (spCopied CR) := by
  refine F.ok sc_r_copied (fun vs H Q E h => ?_) (fun cdv A outer s H vs Q E hr h => ?_)
  · obtain ⟨a, k, ws, R, W, rfl, _⟩ := h
    rfl
  obtain ⟨a, lk, ws, R, W, rfl, S, k⟩ := h
  obtain ⟨m, hm, ml, mv⟩ := S.lks
  obtain ⟨mr, hmr, amr⟩ := S.ra
  obtain ⟨mw, hmw, amw⟩ := S.wa
  have few := S.few
  have amr : atM H mr lk ws R := amr
  have amw : atM H mw lk ws W := amw
  have R0 : Raw CR H a (usd lk ws) (ws.map (gv lk)) m mr mw := ⟨S.obj, S.giv, hm, hmr, hmw, S.gl, S.rw⟩
  refine ⟨_, (pss_cons (ps_set (i := 1) sc_r_copied.nd rfl (Or.inl rfl) (pe_n0 N_RowState hr (by omega) pass0))
    (pss_cons (ps_fld (pv 1) (pe_lock (pe_dcT (own := [("word", 2), ("row", 3)]) (hu_b hr) (by rfl) sc_r_copied.nd (pi_itsT (pe_fld (pv 0) rfl)) (blkOk_by (own := [("word", 2), ("row", 3)]) (N := ["self", "made", "word", "row", "key"]) (sc := defScope s_r_copied) (by decide +kernel)) (fun _ _ _ _ _ => pgK_tup (n := 2) K rfl rfl (pgs_cons (pg_name (i := 2) sc_r_copied.nd rfl (Or.inl rfl)) (pgs_cons (pg_name (i := 3) sc_r_copied.nd rfl (Or.inl rfl)) pgs_nil))) (fun _ _ _ _ _ => (pv 2)) (fun _ _ _ _ _ => (pv 3)))) rfl)
    (pss_cons (ps_fld (pv 1) (pe_lock (pe_dcT (own := [("key", 4), ("row", 3)]) (hu_b hr) (by rfl) sc_r_copied.nd (pi_itsT (pe_fld (pv 0) rfl)) (blkOk_by (own := [("key", 4), ("row", 3)]) (N := ["self", "made", "word", "row", "key"]) (sc := defScope s_r_copied) (by decide +kernel)) (fun _ _ _ _ _ => pgK_tup (n := 2) K rfl rfl (pgs_cons (pg_name (i := 4) sc_r_copied.nd rfl (Or.inl rfl)) (pgs_cons (pg_name (i := 3) sc_r_copied.nd rfl (Or.inl rfl)) pgs_nil))) (fun _ _ _ _ _ => (pv 4)) (fun _ _ _ _ _ => (pv 3)))) rfl)
    (pss_cons (ps_fld (pv 1) (pe_fld (pv 0) rfl) rfl)
    (pss_cons (ps_fld (pv 1) (pe_callTy call_dictD (by rfl) T.z_dict b_dict (pa_cons (pe_fld (pv 0) rfl) pa_nil)) rfl)
    (pss_cons (ps_fld (pv 1) (pe_callTy call_dictD (by rfl) T.z_dict b_dict (pa_cons (pe_fld (pv 0) rfl) pa_nil)) rfl)
    (pss_one (ps_ret (pv 1))))))))), ?_⟩
  refine fun p dx hp hdx hne => ⟨p, dx, rfl, upd_same, fun a' H1 ea SI1 K1 fr => ⟨rfl, ?_⟩⟩
  have s1 : Same H H1 := fun b o e => K1 b o (ne_of_none e hp) (by rw [upd_ne (ne_of_none e hp), upd_ne (ne_of_none e hdx)]; exact e)
  have I1 := SI1 [] []
  subst ea
  have ob1 := I1.obj
  have R1 := R0.same s1
  -- given
  simp only [gName, tSeq, sFld]
  refine copyT (K := K) (σ := [some (.ref a.p), some (.ref a'.p), none, none, none]) (i := 2) (j := 3) (td := tFld K (tVar 0) "given") (d := a.g) R1.giv (by rw [List.length_map]; exact small1000 (by omega)) (by simp) (by simp) (by decide) (fun od R hR => ⟨_, rfl, a.p, CR, a.dx, _, _, rfl, by rw [upd_ne R1.pg]; exact R1.obj, T.cl, T.nG, lkG, hR⟩) (fun g2 H2 hg2 s2 hG2 => ?_)
  refine ⟨_, rfl, a'.p, CR, a'.dx, _, rfl, s2 _ _ ob1, T.cl, T.nG, (by show 5 < 1000; decide), ?_⟩
  rw [pG]
  have ob3 : ∀ {v : List (Str × V)} {G : Hp}, upd G a'.p (.ins CR a'.dx v) a'.p = some (.ins CR a'.dx v) := upd_same
  have st2 := s1.trans s2
  have pfresh : ∀ {b o}, H b = some o → b ≠ a'.p := fun e z => by rw [z, hp] at e; cases e
  have g2p : g2 ≠ a'.p := fun z => by rw [z, ob1] at hg2; cases hg2
  obtain ⟨H3, eH3⟩ : ∃ H3, H3 = upd H2 a'.p (.ins CR a'.dx (rfs (.ref g2) (.ref a'.l) (.int 0) (.ref a'.r) (.ref a'.w))) := ⟨_, rfl⟩
  have st3 : Same H H3 := fun b o e => by rw [eH3, upd_ne (pfresh e)]; exact st2 b o e
  have o3 : H3 a'.p = some (.ins CR a'.dx (rfs (.ref g2) (.ref a'.l) (.int 0) (.ref a'.r) (.ref a'.w))) := by rw [eH3, upd_same]
  have g3 : H3 g2 = some (.dT (ws.map (gv lk))) := by rw [eH3, upd_ne g2p]; exact hG2
  rw [show (V.int ((usd (fun _ _ => none) ([] : List (List Nat)) : Nat) : Int)) = V.int 0 from rfl]
  rw [← eH3]
  have R3 := R0.same st3
  -- links
  refine copyT (K := K) (σ := [some (.ref a.p), some (.ref a'.p), none, none, none]) (i := 4) (j := 3) (td := tFld K (tVar 0) "links") (d := a.l) R3.lks (small1000 (by omega)) (by simp) (by simp) (by decide) (fun od R hR => ⟨_, rfl, a.p, CR, a.dx, _, _, rfl, by rw [upd_ne R3.pl]; exact R3.obj, T.cl, T.nL, lkL, hR⟩) (fun l2 H4 hl2 s4 hL4 => ?_)
  refine ⟨_, rfl, a'.p, CR, a'.dx, _, rfl, s4 _ _ o3, T.cl, T.nL, (by show 5 < 1000; decide), ?_⟩
  rw [pL]
  have l2p : l2 ≠ a'.p := fun z => by rw [z, o3] at hl2; cases hl2
  have gl2 : g2 ≠ l2 := fun z => by rw [← z, g3] at hl2; cases hl2
  have st4 := st3.trans s4
  obtain ⟨H5, eH5⟩ : ∃ H5, H5 = upd H4 a'.p (.ins CR a'.dx (rfs (.ref g2) (.ref l2) (.int 0) (.ref a'.r) (.ref a'.w))) := ⟨_, rfl⟩
  have st5 : Same H H5 := fun b o e => by rw [eH5, upd_ne (pfresh e)]; exact st4 b o e
  have o5 : H5 a'.p = some (.ins CR a'.dx (rfs (.ref g2) (.ref l2) (.int 0) (.ref a'.r) (.ref a'.w))) := by rw [eH5, upd_same]
  have g5 : H5 g2 = some (.dT (ws.map (gv lk))) := by rw [eH5, upd_ne g2p]; exact s4 _ _ g3
  have l5 : H5 l2 = some (.dT m) := by rw [eH5, upd_ne l2p]; exact hL4
  rw [← eH5]
  have R5 := R0.same st5
  -- used
  refine ⟨_, rfl, a.p, CR, a.dx, _, _, rfl, R5.obj, T.cl, T.nU, lkU, _, rfl, a'.p, CR, a'.dx, _, rfl, o5, T.cl, T.nU, (by show 5 < 1000; decide), ?_⟩
  rw [pU]
  obtain ⟨H6, eH6⟩ : ∃ H6, H6 = upd H5 a'.p (.ins CR a'.dx (rfs (.ref g2) (.ref l2) (.int ((usd lk ws : Nat) : Int)) (.ref a'.r) (.ref a'.w))) := ⟨_, rfl⟩
  have st6 : Same H H6 := fun b o e => by rw [eH6, upd_ne (pfresh e)]; exact st5 b o e
  have o6 : H6 a'.p = some (.ins CR a'.dx (rfs (.ref g2) (.ref l2) (.int ((usd lk ws : Nat) : Int)) (.ref a'.r) (.ref a'.w))) := by rw [eH6, upd_same]
  have g6 : H6 g2 = some (.dT (ws.map (gv lk))) := by rw [eH6, upd_ne g2p]; exact g5
  have l6 : H6 l2 = some (.dT m) := by rw [eH6, upd_ne l2p]; exact l5
  rw [← eH6]
  have R6 := R0.same st6
  -- right_at
  refine ⟨_, rfl, a.p, CR, a.dx, _, _, rfl, R6.obj, T.cl, T.nR, lkR, a.r, mr, rfl, .inl R6.ra, fun r2 hr2 => ?_⟩
  have r2p : r2 ≠ a'.p := fun z => by rw [z, o6] at hr2; cases hr2
  refine ⟨_, rfl, a'.p, CR, a'.dx, _, rfl, by rw [upd_ne (Ne.symm r2p)]; exact o6, T.cl, T.nR, (by show 5 < 1000; decide), ?_⟩
  rw [pR]
  obtain ⟨H7, eH7⟩ : ∃ H7, H7 = upd (upd H6 r2 (.dK mr)) a'.p (.ins CR a'.dx (rfs (.ref g2) (.ref l2) (.int ((usd lk ws : Nat) : Int)) (.ref r2) (.ref a'.w))) := ⟨_, rfl⟩
  have st7 : Same H H7 := fun b o e => by rw [eH7, upd_ne (pfresh e), upd_ne (ne_of_none (st6 b o e) hr2)]; exact st6 b o e
  have o7 : H7 a'.p = some (.ins CR a'.dx (rfs (.ref g2) (.ref l2) (.int ((usd lk ws : Nat) : Int)) (.ref r2) (.ref a'.w))) := by rw [eH7, upd_same]
  have g7 : H7 g2 = some (.dT (ws.map (gv lk))) := by rw [eH7, upd_ne g2p, upd_ne (ne_of_none g6 hr2)]; exact g6
  have l7 : H7 l2 = some (.dT m) := by rw [eH7, upd_ne l2p, upd_ne (ne_of_none l6 hr2)]; exact l6
  have r7 : H7 r2 = some (.dK mr) := by rw [eH7, upd_ne r2p, upd_same]
  rw [← eH7]
  have R7 := R0.same st7
  -- wrong_at
  refine ⟨_, rfl, a.p, CR, a.dx, _, _, rfl, R7.obj, T.cl, T.nW, lkW, a.w, mw, rfl, .inl R7.wa, fun w2 hw2 => ?_⟩
  have w2p : w2 ≠ a'.p := fun z => by rw [z, o7] at hw2; cases hw2
  refine ⟨_, rfl, a'.p, CR, a'.dx, _, rfl, by rw [upd_ne (Ne.symm w2p)]; exact o7, T.cl, T.nW, (by show 5 < 1000; decide), ?_⟩
  rw [pW]
  obtain ⟨H8, eH8⟩ : ∃ H8, H8 = upd (upd H7 w2 (.dK mw)) a'.p (.ins CR a'.dx (rfs (.ref g2) (.ref l2) (.int ((usd lk ws : Nat) : Int)) (.ref r2) (.ref w2))) := ⟨_, rfl⟩
  have st8 : Same H H8 := fun b o e => by rw [eH8, upd_ne (pfresh e), upd_ne (ne_of_none (st7 b o e) hw2)]; exact st7 b o e
  rw [← eH8]
  refine ⟨_, rfl, ?_⟩
  have none_of : ∀ {b : Addr} {G : Hp}, Same H G → G b = none → H b = none := fun {b G} s e => by
    cases c : H b with
    | none => rfl
    | some o => rw [s _ _ c] at e; cases e
  refine k ⟨a'.p, a'.dx, g2, l2, r2, w2⟩ H8 st8 ⟨by rw [eH8, upd_same], ?_, S.all, S.nd, S.few, ⟨m, ?_, ml, mv⟩, ⟨mr, ?_, amr.mono (same_tp st8)⟩, ⟨mw, ?_, amw.mono (same_tp st8)⟩, gl2, fun z => ?_⟩ (fun b hb => ?_)
  · rw [eH8, upd_ne g2p, upd_ne (ne_of_none g7 hw2)]; exact g7
  · rw [eH8, upd_ne l2p, upd_ne (ne_of_none l7 hw2)]; exact l7
  · rw [eH8, upd_ne r2p, upd_ne (ne_of_none r7 hw2)]; exact r7
  · rw [eH8, upd_ne w2p, upd_same]
  · have z : r2 = w2 := z
    rw [← z, r7] at hw2; cases hw2
  · simp only [Ad.fp, List.mem_cons, List.not_mem_nil, or_false] at hb
    rcases hb with rfl | rfl | rfl | rfl | rfl
    · exact hp
    · exact none_of s1 hg2
    · exact none_of st3 hl2
    · exact none_of st6 hr2
    · exact none_of st7 hw2
end
end Toy

set_option Elab.async false
set_option linter.all false
set_option maxRecDepth 100000
set_option maxHeartbeats 4000000
namespace Toy
open PySem L2
inductive Tr where
  | non | fits | bad1 (a : List Nat) | bad (a b : List Nat) | try_ (ts : List Tr)
mutual
def Tr.da : Tr → Da
  | .non => .non
  | .fits => .tup [.str "fits"]
  | .bad1 a => .tup [.str "bad", wd a]
  | .bad a b => .tup [.str "bad", wd a, wd b]
  | .try_ ts => .tup [.str "try", .tup (Tr.das ts)]
def Tr.das : List Tr → List Da
  | [] => []
  | t :: r => t.da :: Tr.das r
end
theorem das_map : ∀ l : List Tr, Tr.das l = l.map Tr.da
  | [] => rfl
  | t :: r => by rw [Tr.das, List.map_cons, das_map r]
def isBad (k : Lk) (ws R W : List (List Nat)) : Tr → Bool
  | .bad a b => decide (a ∈ R ∧ b ∈ W ∧ a ∈ ws ∧ b ∈ ws ∧ rwN k a = rwN k b)
  | _ => false
def Bin (R : List (List Nat)) : Prop := ∀ w ∈ R, ∀ c ∈ w, c < 2
def spIsBad (CR : Addr) : Sp := fun vs H Q _ => ∃ a k ws R W u t tr, vs = [.ref a.p, u, t, .int 2] ∧ SI CR H a k ws R W ∧ DV H u (sampD R W) ∧ DV H t (Tr.da tr) ∧ Bin R ∧ Bin W ∧ Q (.bl (isBad k ws R W tr)) H
theorem str_ne1 : ("try" : Str) ≠ "bad" := by decide +kernel
section
variable {P : Program} {w : World} {K : PySem.W.Frag} {mg : Str → Option Value} {base : Heap} {CR : Addr}
abbrev s_is_bad : Stmt := top 12
theorem sc_is_bad : FnScope ["state", "samples", "tree", "base"] ["state", "samples", "tree", "base"] (defScope s_is_bad) := ⟨rfl, rfl, rfl, by decide +kernel, rfl, by decide +kernel, by decide +kernel⟩

theorem ok_is_bad {f : Addr} {fd : FuncData} (F : Fun K "is_bad" "is_bad" s_is_bad f fd) (T : Txt K mg CR) (C_is_cells : CalX P w K mg base CX0 2 "is_cells" spCells) : FnOk P w K mg base CX0 3 f fd ["state", "samples", "tree", "base"] (spIsBad CR) := by
  refine F.ok sc_is_bad (fun vs H Q E h => ?_) (fun cdv A outer s H vs Q E hr h => ?_)
  · obtain ⟨a, k, ws, R, W, u, t, tr, rfl, _⟩ := h
    rfl
  obtain ⟨a, lk, ws, R, W, u, t, tr, rfl, S, hu, ht, bR, bW, k⟩ := h
  obtain ⟨c, cr, cw, rs, us, rfl, hc, hcr, hcw, dr, dw⟩ := samp_inv hu
  refine ⟨_, (pss_cons (ps_if (PW.pt (pw_or (pt_not (pt_val (pe_callB call_isi2 (by rfl) T.z_isinstance b_isinstance (pa_cons (pv 2) (pa_cons (pe_bltn (v := .ty "tuple") (by rfl) T.z_tuple b_tuple rfl) pa_nil))))) (pw_or (pt_cmpR op_ne (pe_callB call_len_seq (by rfl) T.z_len b_len (pa_cons (pv 2) pa_nil)) pe_int (nomark _)) (pw_or1 (pt_cmpR op_ne (pe_ix ix_tup (pv 2) pe_int (fun _ _ => rfl)) pe_str (nomark _)))))) (pss_one (ps_ret pe_bl)) pss_nil)
    (pss_cons (ps_if (PW.pt (pw_or (pt_not (pt_val (pe_u C_is_cells hr (by omega) pass0 (pa_cons (pe_ix ix_tup (pv 2) pe_int (fun _ _ => rfl)) (pa_cons (pv 3) pa_nil))))) (pw_or1 (pt_not (pt_val (pe_u C_is_cells hr (by omega) pass0 (pa_cons (pe_ix ix_tup (pv 2) pe_int (fun _ _ => rfl)) (pa_cons (pv 3) pa_nil)))))))) (pss_one (ps_ret pe_bl)) pss_nil)
    (pss_cons (ps_if (PW.pt (pw_or (pt_cmpR (op_niA (hu_a hr)) (pe_ix ix_tup (pv 2) pe_int (fun _ _ => rfl)) (pe_ix ix_tup (pv 1) pe_int (fun _ _ => rfl)) rfl) (pw_or1 (pt_cmpR (op_niA (hu_a hr)) (pe_ix ix_tup (pv 2) pe_int (fun _ _ => rfl)) (pe_ix ix_tup (pv 1) pe_int (fun _ _ => rfl)) rfl)))) (pss_one (ps_ret pe_bl)) pss_nil)
    (pss_cons (ps_if (PW.pt (pw_or (pt_cmp (pc_dnotin (hu_b hr) (pe_ix ix_tup (pv 2) pe_int (fun _ _ => rfl)) (pe_fld (pv 0) rfl)) rfl) (pw_or1 (pt_cmp (pc_dnotin (hu_b hr) (pe_ix ix_tup (pv 2) pe_int (fun _ _ => rfl)) (pe_fld (pv 0) rfl)) rfl)))) (pss_one (ps_ret pe_bl)) pss_nil)
    (pss_one (ps_ret (pe_cmpR op_eq (pe_dget (hu_b hr) (pe_fld (pv 0) rfl) (pe_ix ix_tup (pv 2) pe_int (fun _ _ => rfl)) (fun _ _ => rfl)) (pe_dget (hu_b hr) (pe_fld (pv 0) rfl) (pe_ix ix_tup (pv 2) pe_int (fun _ _ => rfl)) (fun _ _ => rfl)) (nomark _)))))))), ?_⟩
  cases tr with
  | non =>
    cases ht
    exact ⟨_, rfl, _, _, _, false, rfl, .base .non, by decide +kernel, _, rfl, ifT rfl k⟩
  | fits =>
    obtain ⟨q, xs, rfl, hq, hx⟩ := ht.inv
    have hl := hx.length
    refine ⟨_, rfl, _, _, _, true, rfl, .base (.tup hq), by decide +kernel, _, rfl, ifF (by simp) ?_⟩
    refine ⟨_, rfl, q, _, rfl, .inr (SqT.of hq), rfl, _, rfl, ifT (by rw [hl]; decide) k⟩
  | bad1 x =>
    obtain ⟨q, xs, rfl, hq, hx⟩ := ht.inv
    have hl := hx.length
    refine ⟨_, rfl, _, _, _, true, rfl, .base (.tup hq), by decide +kernel, _, rfl, ifF (by simp) ?_⟩
    refine ⟨_, rfl, q, _, rfl, .inr (SqT.of hq), rfl, _, rfl, ifT (by rw [hl]; show (!decide (V.int 2 = V.int 3)) = true; decide) k⟩
  | try_ ts =>
    obtain ⟨q, xs, rfl, hq, hx⟩ := ht.inv
    have hl := hx.length
    refine ⟨_, rfl, _, _, _, true, rfl, .base (.tup hq), by decide +kernel, _, rfl, ifF (by simp) ?_⟩
    refine ⟨_, rfl, q, _, rfl, .inr (SqT.of hq), rfl, _, rfl, ifT (by rw [hl]; show (!decide (V.int 2 = V.int 3)) = true; decide) k⟩
  | bad x y =>
    obtain ⟨q, xs, rfl, hq, hx⟩ := ht.inv
    cases hx with
    | cons h1 h2 =>
      cases h2 with
      | cons h3 h4 =>
        cases h4 with
        | cons h5 h6 =>
          cases h6
          cases h1
          obtain ⟨px, rfl, hpx⟩ := h3.word
          obtain ⟨py, rfl, hpy⟩ := h5.word
          refine ⟨_, rfl, _, _, _, true, rfl, .base (.tup hq), by decide +kernel, _, rfl, ifF (by simp) ?_⟩
          refine ⟨_, rfl, q, _, rfl, .inr (SqT.of hq), rfl, _, rfl, ifF (by simp) ?_⟩
          refine ⟨_, rfl, q, _, _, _, rfl, rfl, SqT.of hq, rfl, rfl, _, rfl, ifF (by simp) ?_⟩
          refine ⟨_, rfl, q, _, _, _, rfl, rfl, SqT.of hq, rfl, _, rfl, _, x, rfl, h3, fun b1 hb1 => ⟨_, rfl, ?_⟩⟩
          have no : ∀ {P : Prop} [Decidable P], P = (x ∈ R ∧ y ∈ W ∧ x ∈ ws ∧ y ∈ ws ∧ rwN lk x = rwN lk y) → ¬ P → Q (.bl false) H := fun {P} _ e n => by
            have : isBad lk ws R W (.bad x y) = false := decide_eq_false (by rw [← e]; exact n)
            rw [this] at k
            exact k
          have no : ¬ (x ∈ R ∧ y ∈ W ∧ x ∈ ws ∧ y ∈ ws ∧ rwN lk x = rwN lk y) → Q (.bl false) H := no rfl
          cases b1 with
          | false => exact no fun z => by have := hb1.mpr (bR x z.1); cases this
          | true =>
          refine ⟨_, rfl, q, _, _, _, rfl, rfl, SqT.of hq, rfl, _, rfl, _, y, rfl, h5, fun b2 hb2 => ⟨_, rfl, ?_⟩⟩
          cases b2 with
          | false => exact no fun z => by have := hb2.mpr (bW y z.2.1); cases this
          | true =>
          refine ⟨_, rfl, q, _, _, _, rfl, rfl, SqT.of hq, rfl, _, rfl, c, _, _, _, rfl, rfl, SqT.of hc, rfl, wd x, cr, rs, _, h3, rfl, .inl hcr, dr, Nat.le_trans (wd_deep x) (by decide), fun b hb => ⟨_, rfl, ?_⟩⟩
          rw [mem_wd] at hb
          refine ite2 (fun e => no fun z => hb.mp e z.1) (fun e1 => ?_)
          have xR : x ∈ R := Classical.byContradiction fun z => e1 (hb.mpr z)
          refine ⟨_, rfl, q, _, _, _, rfl, rfl, SqT.of hq, rfl, _, rfl, c, _, _, _, rfl, rfl, SqT.of hc, rfl, wd y, cw, us, _, h5, rfl, .inl hcw, dw, Nat.le_trans (wd_deep y) (by decide), fun b hb => ⟨_, rfl, ?_⟩⟩
          rw [mem_wd] at hb
          refine ite2 (fun e => no fun z => hb.mp e z.2.1) (fun e2 => ?_)
          have yW : y ∈ W := Classical.byContradiction fun z => e2 (hb.mpr z)
          have kx : H px = some (.tup ((ky x).map kV)) := by rw [ky_vs]; exact hpx
          have kyy : H py = some (.tup ((ky y).map kV)) := by rw [ky_vs]; exact hpy
          have gx := DGet.t S.giv kx
          have gy := DGet.t S.giv kyy
          by_cases xw : x ∈ ws
          · rw [val_given xw] at gx
            refine ⟨_, rfl, q, _, _, _, rfl, rfl, SqT.of hq, rfl, _, rfl, a.p, CR, a.dx, _, _, rfl, S.obj, T.cl, T.nG, lkG, a.g, _, rfl, gx, _, rfl, ifF (by simp) ?_⟩
            by_cases yw : y ∈ ws
            · rw [val_given yw] at gy
              refine ⟨_, rfl, q, _, _, _, rfl, rfl, SqT.of hq, rfl, _, rfl, a.p, CR, a.dx, _, _, rfl, S.obj, T.cl, T.nG, lkG, a.g, _, rfl, gy, _, rfl, ifF (by simp) ?_⟩
              refine ⟨_, rfl, a.p, CR, a.dx, _, _, rfl, S.obj, T.cl, T.nG, lkG, _, rfl, q, _, _, _, rfl, rfl, SqT.of hq, rfl, a.g, _, rfl, gx, _, rfl, a.p, CR, a.dx, _, _, rfl, S.obj, T.cl, T.nG, lkG, _, rfl, q, _, _, _, rfl, rfl, SqT.of hq, rfl, a.g, _, rfl, gy, rfl, ?_⟩
              have e : isBad lk ws R W (.bad x y) = decide (V.int ((rwN lk x : Nat) : Int) = V.int ((rwN lk y : Nat) : Int)) := by
                unfold isBad
                rw [Bool.eq_iff_iff, decide_eq_true_eq, decide_eq_true_eq]
                exact ⟨fun z => by rw [z.2.2.2.2], fun z => ⟨xR, yW, xw, yw, by injection z with z; omega⟩⟩
              rw [e] at k
              exact k
            · rw [val_given_no yw] at gy
              exact ⟨_, rfl, q, _, _, _, rfl, rfl, SqT.of hq, rfl, _, rfl, a.p, CR, a.dx, _, _, rfl, S.obj, T.cl, T.nG, lkG, a.g, _, rfl, gy, _, rfl, ifT (by simp) (no fun z => yw z.2.2.2.1)⟩
          · rw [val_given_no xw] at gx
            exact ⟨_, rfl, q, _, _, _, rfl, rfl, SqT.of hq, rfl, _, rfl, a.p, CR, a.dx, _, _, rfl, S.obj, T.cl, T.nG, lkG, a.g, _, rfl, gx, _, rfl, ifT (by simp) (no fun z => xw z.2.2.1)⟩
end
end Toy

set_option Elab.async false
set_option linter.all false
set_option maxRecDepth 100000
set_option maxHeartbeats 4000000
namespace Toy
open PySem L2
def ext (k : Lk) (w : List Nat) (s : Nat) : Lk := if w = [] then k else k.put (rwN k w.dropLast) (lst w) s
def trys : Tr → Option (List Tr)
  | .try_ ts => some ts
  | _ => none
def acc (R W : List (List Nat)) (most : Nat) : List (List Nat) → List (List Nat) → Lk → Tr → Bool
  | [], _, _, _ => false
  | w :: rest, ws, k, t => match forcedN k w with
    | some s => if (clash (ext k w s) (ws ++ [w]) R W s).isSome = true then isBad (ext k w s) (ws ++ [w]) R W t else acc R W most rest (ws ++ [w]) (ext k w s) t
    | none => match trys t with
      | some ts => decide (ts.length = min (usd k ws + 1) most) && ts.zipIdx.all fun p =>
          if (clash (ext k w p.2) (ws ++ [w]) R W p.2).isSome = true then isBad (ext k w p.2) (ws ++ [w]) R W p.1 else acc R W most rest (ws ++ [w]) (ext k w p.2) p.1
      | none => false
theorem acc_some {R W : List (List Nat)} {most : Nat} {rest ws : List (List Nat)} {w : List Nat} {k : Lk} {t : Tr} {s : Nat} (h : forcedN k w = some s) :
    acc R W most (w :: rest) ws k t = if (clash (ext k w s) (ws ++ [w]) R W s).isSome = true then isBad (ext k w s) (ws ++ [w]) R W t else acc R W most rest (ws ++ [w]) (ext k w s) t := by
  rw [acc, h]
theorem acc_no {R W : List (List Nat)} {most : Nat} {rest ws : List (List Nat)} {w : List Nat} {k : Lk} {t : Tr} (h : forcedN k w = none) (ht : trys t = none) : acc R W most (w :: rest) ws k t = false := by
  rw [acc, h, ht]
theorem acc_try {R W : List (List Nat)} {most : Nat} {rest ws : List (List Nat)} {w : List Nat} {k : Lk} {ts : List Tr} (h : forcedN k w = none) :
    acc R W most (w :: rest) ws k (.try_ ts) = (decide (ts.length = min (usd k ws + 1) most) && ts.zipIdx.all fun p =>
      if (clash (ext k w p.2) (ws ++ [w]) R W p.2).isSome = true then isBad (ext k w p.2) (ws ++ [w]) R W p.1 else acc R W most rest (ws ++ [w]) (ext k w p.2) p.1) := by
  rw [acc, h]
  rfl
theorem noM {g l u r w : V} {m : Str} (h1 : (m == ("given" : Str)) = false) (h2 : (m == ("links" : Str)) = false) (h3 : (m == ("used" : Str)) = false) (h4 : (m == ("right_at" : Str)) = false) (h5 : (m == ("wrong_at" : Str)) = false) : List.lookup m (rfs g l u r w) = none := by
  simp [rfs, List.lookup, h1, h2, h3, h4, h5]
theorem noF {g l u r w : V} : List.lookup ("forced" : Str) (rfs g l u r w) = none := noM (by decide +kernel) (by decide +kernel) (by decide +kernel) (by decide +kernel) (by decide +kernel)
theorem noGi {g l u r w : V} : List.lookup ("give" : Str) (rfs g l u r w) = none := noM (by decide +kernel) (by decide +kernel) (by decide +kernel) (by decide +kernel) (by decide +kernel)
theorem noC {g l u r w : V} : List.lookup ("copied" : Str) (rfs g l u r w) = none := noM (by decide +kernel) (by decide +kernel) (by decide +kernel) (by decide +kernel) (by decide +kernel)
structure Pre (full : List (List Nat)) : Prop where
  nd : full.Nodup
  few : full.length ≤ 900
  pre : ∀ ws w rest, full = ws ++ w :: rest → w = [] ∨ w.dropLast ∈ ws
theorem Pre.fresh {full ws rest : List (List Nat)} {w : List Nat} (p : Pre full) (e : full = ws ++ w :: rest) : w ∉ ws := by
  have := p.nd
  rw [e] at this
  intro h
  exact (List.nodup_append.mp this).2.2 w h w (by simp) rfl
theorem Pre.step {full ws rest : List (List Nat)} {w : List Nat} {s : Nat} {k : Lk} (p : Pre full) (e : full = ws ++ w :: rest) (h : forcedN k w = none ∨ forcedN k w = some s) : Step k (ext k w s) ws w s := by
  refine ⟨p.fresh e, fun z => ?_, fun z => ?_⟩
  · subst z
    refine ⟨?_, if_pos rfl⟩
    rcases h with h | h
    · cases h
    · injection h with h; exact h.symm
  · refine ⟨(p.pre _ _ _ e).resolve_left z, if_neg z, ?_⟩
    unfold forcedN at h
    rw [if_neg z] at h
    exact h
theorem SI.kinds {CR : Addr} {H : Hp} {a : Ad} {k : Lk} {ws R W : List (List Nat)} (S : SI CR H a k ws R W) {b : Addr} {o : HO} (e : H b = some o) (h1 : ∀ C d f, o ≠ .ins C d f) (h2 : ∀ m, o ≠ .dT m) (h3 : ∀ m, o ≠ .dK m) : b ∉ a.fp := by
  obtain ⟨m, hm, _⟩ := S.lks
  obtain ⟨mr, hmr, _⟩ := S.ra
  obtain ⟨mw, hmw, _⟩ := S.wa
  intro hb
  simp only [Ad.fp, List.mem_cons, List.not_mem_nil, or_false] at hb
  rcases hb with rfl | rfl | rfl | rfl | rfl
  · rw [S.obj] at e; exact h1 _ _ _ (Option.some.inj e).symm
  · rw [S.giv] at e; exact h2 _ (Option.some.inj e).symm
  · rw [hm] at e; exact h2 _ (Option.some.inj e).symm
  · rw [hmr] at e; exact h3 _ (Option.some.inj e).symm
  · rw [hmw] at e; exact h3 _ (Option.some.inj e).symm
theorem SI.tups {CR : Addr} {H H' : Hp} {a : Ad} {k : Lk} {ws R W : List (List Nat)} (S : SI CR H a k ws R W) (o : Out a.fp H H') : Tups H H' := fun b xs e =>
  o b _ (S.kinds e (fun _ _ _ z => nomatch z) (fun _ z => nomatch z) (fun _ z => nomatch z)) e
theorem SI.lst {CR : Addr} {H H' : Hp} {a : Ad} {k : Lk} {ws R W : List (List Nat)} (S : SI CR H a k ws R W) (o : Out a.fp H H') {b : Addr} {xs : List V} (e : H b = some (.lst xs)) : H' b = some (.lst xs) :=
  o b _ (S.kinds e (fun _ _ _ z => nomatch z) (fun _ z => nomatch z) (fun _ z => nomatch z)) e
theorem SI.same {CR : Addr} {H H' : Hp} {a : Ad} {k : Lk} {ws R W : List (List Nat)} (S : SI CR H a k ws R W) (s : Same H H') : SI CR H' a k ws R W := by
  obtain ⟨m, hm, ml, mv⟩ := S.lks
  obtain ⟨mr, hmr, ar⟩ := S.ra
  obtain ⟨mw, hmw, aw⟩ := S.wa
  have ar : atM H mr k ws R := ar
  have aw : atM H mw k ws W := aw
  exact ⟨s _ _ S.obj, s _ _ S.giv, S.all, S.nd, S.few, ⟨m, s _ _ hm, ml, mv⟩, ⟨mr, s _ _ hmr, ar.mono (same_tp s)⟩, ⟨mw, s _ _ hmw, aw.mono (same_tp s)⟩, S.gl, S.rw⟩
def spBars (CR : Addr) : Nat → Sp
  | 0 => fun _ _ _ _ => False
  | n + 1 => fun vs H Q _ => ∃ a k ws rest full R W q us u t tr most, vs = [.ref a.p, .ref q, u, .int ((most : Nat) : Int), t, .int 2] ∧ SI CR H a k ws R W ∧ full = ws ++ rest ∧ rest.length ≤ n ∧ Pre full ∧ H q = some (.lst us) ∧ DVs H us (full.map wd) ∧
    DV H u (sampD R W) ∧ DV H t (Tr.da tr) ∧ Bin R ∧ Bin W ∧ ∀ H', Out a.fp H H' → Q (.bl (acc R W most rest ws k tr)) H'
theorem clash_isSome {H : Hp} {x : V} {c : Option (List Nat × List Nat)} (h : clashV H x c) : (x = .non ↔ c.isSome = false) := by
  cases c with
  | none => exact ⟨fun _ => rfl, fun _ => h⟩
  | some p =>
    obtain ⟨a, b⟩ := p
    obtain ⟨q, xs, rfl, _⟩ := (show DV H x (.tup [wd a, wd b]) from h).inv
    exact Iff.intro (fun z => by cases z) (fun z => by cases z)
section
variable {P : Program} {w : World} {K : PySem.W.Frag} {mg : Str → Option Value} {base : Heap} {CR : Addr}
abbrev s_bars : Stmt := top 13
theorem sc_bars : FnScope ["state", "words", "samples", "most", "tree", "base", "at", "row", "inner", "other"] ["state", "words", "samples", "most", "tree", "base"] (defScope s_bars) := ⟨rfl, rfl, rfl, by decide +kernel, rfl, by decide +kernel, by decide +kernel⟩

theorem ok_bars {n : Nat} {f : Addr} {fd : FuncData} (F : Fun K "bars" "bars" s_bars f fd) (T : Txt K mg CR) (M_forced : MetX P w K mg base CX0 1 CR "forced" (spForced CR)) (M_give : MetX P w K mg base CX0 1 CR "give" (spGive CR)) (M_copied : MetX P w K mg base CX0 3 CR "copied" (spCopied CR))
    (C_is_bad : CalX P w K mg base CX0 3 "is_bad" (spIsBad CR)) (C_bars : CalX P w K mg base CX0 (n + 3) "bars" (spBars CR n)) : FnOk P w K mg base CX0 (n + 4) f fd ["state", "words", "samples", "most", "tree", "base"] (spBars CR (n + 1)) := by
  refine F.ok sc_bars (fun vs H Q E h => ?_) (fun cdv A outer s H vs Q E hr h => ?_)
  · obtain ⟨a, k, ws, rest, full, R, W, q, us, u, t, tr, most, rfl, _⟩ := h
    rfl
  obtain ⟨a, k0, ws0, rest0, full, R, W, q, us, u, t, tr, most, rfl, S0, ef0, hn, pf, hq, hus, hu, ht, bR, bW, kk⟩ := h
  have hr : Room (n + 3) _ := hr
  have hul := hus.length
  rw [List.length_map] at hul
  refine ⟨_, (pss_cons (ps_set (i := 6) sc_bars.nd rfl (Or.inl rfl) (pe_callB call_len_dT (by rfl) T.z_len b_len (pa_cons (pe_fld (pv 0) rfl) pa_nil)))
    (C8.pss_cut (ps_while PassesOwn.never (pt_cmpR op_lt (pv 6) (pe_callB call_len_seq (by rfl) T.z_len b_len (pa_cons (pv 1) pa_nil)) (nomark _)) (pss_cons (ps_set (i := 7) sc_bars.nd rfl (Or.inl rfl) (pe_me M_forced hr (by omega) pass0 (pv 0) (pa_cons (pe_ix ix_list (pv 1) (pv 6) (fun _ _ => rfl)) pa_nil)))
    (pss_cons (ps_if (pt_cmpR op_isN (pv 7) pe_non (nomark _)) (pss_one ps_break) pss_nil)
    (pss_cons (ps_if (pt_cmpR op_notN (pe_me M_give hr (by omega) pass0 (pv 0) (pa_cons (pe_ix ix_list (pv 1) (pv 6) (fun _ _ => rfl)) (pa_cons (pv 7) (pa_cons (pv 2) pa_nil)))) pe_non (nomark _)) (pss_one (ps_ret (pe_u C_is_bad hr (by omega) pass0 (pa_cons (pv 0) (pa_cons (pv 2) (pa_cons (pv 4) (pa_cons (pv 5) pa_nil))))))) pss_nil)
    (pss_one (ps_aug (i := 6) sc_bars.nd rfl (Or.inl rfl) pe_int ip_add))))))
    (pss_cons (ps_if (PW.pt (pw_or (pt_cmpR op_eq (pv 6) (pe_callB call_len_seq (by rfl) T.z_len b_len (pa_cons (pv 1) pa_nil)) (nomark _)) (pw_or (pt_not (pt_val (pe_callB call_isi2 (by rfl) T.z_isinstance b_isinstance (pa_cons (pv 4) (pa_cons (pe_bltn (v := .ty "tuple") (by rfl) T.z_tuple b_tuple rfl) pa_nil))))) (pw_or (pt_cmpR op_ne (pe_callB call_len_seq (by rfl) T.z_len b_len (pa_cons (pv 4) pa_nil)) pe_int (nomark _)) (pw_or1 (pt_cmpR op_ne (pe_ix ix_tup (pv 4) pe_int (fun _ _ => rfl)) pe_str (nomark _))))))) (pss_one (ps_ret pe_bl)) pss_nil)
    (pss_cons (ps_if (PW.pt (pw_or (pt_not (pt_val (pe_callB call_isi2 (by rfl) T.z_isinstance b_isinstance (pa_cons (pe_ix ix_tup (pv 4) pe_int (fun _ _ => rfl)) (pa_cons (pe_bltn (v := .ty "tuple") (by rfl) T.z_tuple b_tuple rfl) pa_nil))))) (pw_or1 (pt_cmpR op_ne (pe_callB call_len_seq (by rfl) T.z_len b_len (pa_cons (pe_ix ix_tup (pv 4) pe_int (fun _ _ => rfl)) pa_nil)) (pe_callB (call_min2 rfl) (by rfl) T.z_min b_min (pa_cons (pe_op op_add (pe_fld (pv 0) rfl) pe_int) (pa_cons (pv 3) pa_nil))) (nomark _))))) (pss_one (ps_ret pe_bl)) pss_nil)
    (pss_cons (ps_for PassesOwn.never rfl (pi_enumT (by rfl) T.z_enumerate (pa_cons (pe_ix ix_tup (pv 4) pe_int (fun _ _ => rfl)) pa_nil)) (pg_tup (by rfl) (pgs_cons (pg_name (i := 7) sc_bars.nd rfl (Or.inl rfl)) (pgs_cons (pg_name (i := 8) sc_bars.nd rfl (Or.inl rfl)) pgs_nil))) (pss_cons (ps_set (i := 9) sc_bars.nd rfl (Or.inl rfl) (pe_me0 M_copied hr (by omega) pass0 (pv 0)))
    (pss_one (ps_if (pt_cmpR op_notN (pe_me M_give hr (by omega) pass0 (pv 9) (pa_cons (pe_ix ix_list (pv 1) (pv 6) (fun _ _ => rfl)) (pa_cons (pv 7) (pa_cons (pv 2) pa_nil)))) pe_non (nomark _)) (pss_one (ps_if (pt_not (pt_val (pe_u C_is_bad hr (by omega) pass0 (pa_cons (pv 9) (pa_cons (pv 2) (pa_cons (pv 8) (pa_cons (pv 5) pa_nil))))))) (pss_one (ps_ret pe_bl)) pss_nil)) (pss_one (ps_if (pt_not (pt_val (pe_u C_bars hr (by omega) pass0 (pa_cons (pv 9) (pa_cons (pv 1) (pa_cons (pv 2) (pa_cons (pv 3) (pa_cons (pv 8) (pa_cons (pv 5) pa_nil))))))))) (pss_one (ps_ret pe_bl)) pss_nil))))))
    (pss_one (ps_ret pe_bl))))))), ?_⟩
  refine ⟨_, rfl, a.p, CR, a.dx, _, _, rfl, S0.obj, T.cl, T.nG, lkG, a.g, _, rfl, S0.giv, ?_⟩
  refine ⟨fun σ' H' => ∃ k ws rest g7, σ' = [some (.ref a.p), some (.ref q), some u, some (.int ((most : Nat) : Int)), some t, some (.int 2), some (.int ((ws.length : Nat) : Int)), g7, none, none] ∧ SI CR H' a k ws R W ∧ full = ws ++ rest ∧ rest.length ≤ n ∧ Out a.fp H H' ∧ acc R W most rest ws k tr = acc R W most rest0 ws0 k0 tr ∧ (rest = [] ∨ ∃ w r, rest = w :: r ∧ forcedN k w = none), ?_, ?_⟩
  · refine wh (fun (b : Lk × List (List Nat) × List (List Nat)) σ' H' => ∃ g7, σ' = [some (.ref a.p), some (.ref q), some u, some (.int ((most : Nat) : Int)), some t, some (.int 2), some (.int ((b.2.1.length : Nat) : Int)), g7, none, none] ∧ SI CR H' a b.1 b.2.1 R W ∧ full = b.2.1 ++ b.2.2 ∧ b.2.2.length ≤ n ∧ Out a.fp H H' ∧ acc R W most b.2.2 b.2.1 b.1 tr = acc R W most rest0 ws0 k0 tr)
      (fun b => b.2.2.length) (k0, ws0, rest0) ⟨_, by rw [List.length_map]; rfl, S0, ef0, hn, .refl, rfl⟩ ?_
    rintro ⟨k, ws, rest⟩ σ' H' ⟨g7, rfl, S, ef, hle, oo, ea⟩
    have S : SI CR H' a k ws R W := S
    have ef : full = ws ++ rest := ef
    have hle : rest.length ≤ n := hle
    have ea : acc R W most rest ws k tr = acc R W most rest0 ws0 k0 tr := ea
    have hq' := S0.lst oo hq
    have tp := S0.tups oo
    refine ⟨_, rfl, _, rfl, q, us, rfl, .inl (SqL.of hq'), _, _, rfl, rfl, _, rfl, ?_⟩
    cases rest with
    | nil =>
      refine ifF ?_ ⟨k, ws, [], g7, rfl, S, ef, hle, oo, ea, .inl rfl⟩
      rw [hul, ef]
      simp
    | cons w rest =>
      refine ifT ?_ ⟨whN _ (fun b => b.2.2.length) (k, ws, w :: rest), whN_ok, ?_⟩
      · rw [hul, ef]
        simp; omega
      have hw : full[ws.length]? = some w := by rw [ef, List.getElem?_append_right (Nat.le_refl _)]; simp
      obtain ⟨wv, hwv, dwv⟩ := hus.at (i := ws.length) (p := wd w) (by rw [List.getElem?_map, hw]; rfl)
      have dwv' := dwv.mono tp
      refine ⟨_, rfl, a.p, a.dx, _, rfl, S.obj, noF, _, rfl, _, rfl, q, _, _, _, rfl, rfl, SqL.of hq', atI_nat hwv, a, k, ws, R, W, wv, w, rfl, S, dwv', pf.pre _ _ _ ef, fun H2 s2 => ?_⟩
      cases fc : forcedN k w with
      | none =>
        refine ⟨_, rfl, rfl, _, rfl, ifT rfl ?_⟩
        exact ⟨k, ws, w :: rest, _, rfl, S.same s2, ef, hle, oo.trans (out_same s2), ea, .inr ⟨w, rest, rfl, fc⟩⟩
      | some sr =>
        have S2 := S.same s2
        have oo2 := oo.trans (out_same s2)
        have st : Step k (ext k w sr) ws w sr := pf.step ef (.inr fc)
        refine ⟨_, rfl, rfl, _, rfl, ifF (by simp [optV]) ?_⟩
        refine ⟨_, rfl, a.p, a.dx, _, rfl, S2.obj, noGi, _, rfl, _, rfl, q, _, _, _, rfl, rfl, SqL.of (s2 _ _ hq'), atI_nat hwv, _, rfl, _, rfl, a, k, ext k w sr, ws, R, W, wv, w, sr, u, rfl, S2, dwv'.mono (same_tp s2), (hu.mono tp).mono (same_tp s2), st, ?_, fun x H3 S3 o3 cv => ?_⟩
        · have := pf.few
          rw [ef, List.length_append] at this
          omega
        have ci := clash_isSome cv
        have ea' : acc R W most (w :: rest) ws k tr = if (clash (ext k w sr) (ws ++ [w]) R W sr).isSome = true then isBad (ext k w sr) (ws ++ [w]) R W tr else acc R W most rest (ws ++ [w]) (ext k w sr) tr := by
          exact acc_some fc
        refine ⟨rfl, _, rfl, ?_⟩
        by_cases hx : x = .non
        · have cf := ci.mp hx
          refine ifF (by simp [hx]) ?_
          refine ⟨_, rfl, _, _, rfl, rfl, (ext k w sr, ws ++ [w], rest), ?_, some (.int ((sr : Nat) : Int)), ?_, S3, ?_, ?_, oo2.trans o3, ?_⟩
          · show rest.length < (w :: rest).length
            rw [List.length_cons]; omega
          · have e1 : (((ws ++ [w]).length : Nat) : Int) = ((ws.length : Nat) : Int) + 1 := by rw [List.length_append, List.length_singleton]; omega
            show _ = [some (.ref a.p), some (.ref q), some u, some (.int ((most : Nat) : Int)), some t, some (.int 2), some (.int (((ws ++ [w]).length : Nat) : Int)), some (.int ((sr : Nat) : Int)), none, none]
            rw [e1]
            rfl
          · show full = (ws ++ [w]) ++ rest
            rw [ef]; simp
          · show rest.length ≤ n
            rw [List.length_cons] at hle; omega
          · show acc R W most rest (ws ++ [w]) (ext k w sr) tr = _
            rw [← ea, ea', cf]
            rfl
        · have ct : (clash (ext k w sr) (ws ++ [w]) R W sr).isSome = true := by
            cases c : (clash (ext k w sr) (ws ++ [w]) R W sr).isSome with
            | true => rfl
            | false => exact absurd (ci.mpr c) hx
          refine ifT (by simp [hx]) ?_
          have t3 := S2.tups o3
          have tA : Tups H H3 := (tp.trans (same_tp s2)).trans t3
          refine ⟨_, rfl, _, rfl, _, rfl, _, rfl, a, _, _, R, W, u, t, tr, rfl, S3, hu.mono tA, ht.mono tA, bR, bW, ?_⟩
          have := kk H3 (oo2.trans o3)
          rw [← ea, ea', if_pos ct] at this
          exact this
  · rintro σ' H' ⟨k, ws, rest, g7, rfl, S, ef, hle, oo, ea, hrest⟩
    rw [← ea] at kk
    have tp := S0.tups oo
    have hq' := S0.lst oo hq
    have ht' := ht.mono tp
    have hu' := hu.mono tp
    have kk' := kk H' oo
    rcases hrest with rfl | ⟨w, r, rfl, fc⟩
    · refine ⟨_, rfl, _, rfl, q, us, rfl, .inl (SqL.of hq'), rfl, _, rfl, ifT ?_ kk'⟩
      rw [hul, ef]
      simp
    refine ⟨_, rfl, _, rfl, q, us, rfl, .inl (SqL.of hq'), rfl, _, rfl, ifF ?_ ?_⟩
    · rw [hul, ef]
      simp; omega
    have no : trys tr = none → Q (.bl false) H' := fun h => by
      rw [acc_no fc h] at kk'
      exact kk'
    cases tr with
    | non =>
      cases ht'
      exact ⟨_, rfl, _, _, _, false, rfl, .base .non, by decide +kernel, _, rfl, ifT rfl (no rfl)⟩
    | fits =>
      obtain ⟨qt, xs, rfl, hqt, hx⟩ := ht'.inv
      have hl := hx.length
      refine ⟨_, rfl, _, _, _, true, rfl, .base (.tup hqt), by decide +kernel, _, rfl, ifF (by simp) ?_⟩
      exact ⟨_, rfl, qt, _, rfl, .inr (SqT.of hqt), rfl, _, rfl, ifT (by rw [hl]; decide) (no rfl)⟩
    | bad x y =>
      obtain ⟨qt, xs, rfl, hqt, hx⟩ := ht'.inv
      have hl := hx.length
      refine ⟨_, rfl, _, _, _, true, rfl, .base (.tup hqt), by decide +kernel, _, rfl, ifF (by simp) ?_⟩
      exact ⟨_, rfl, qt, _, rfl, .inr (SqT.of hqt), rfl, _, rfl, ifT (by rw [hl]; show (!decide (V.int 3 = V.int 2)) = true; decide) (no rfl)⟩
    | bad1 x =>
      obtain ⟨qt, xs, rfl, hqt, hx⟩ := ht'.inv
      cases hx with
      | cons h1 h2 =>
        cases h2 with
        | cons h3 h4 =>
          cases h4
          cases h1
          refine ⟨_, rfl, _, _, _, true, rfl, .base (.tup hqt), by decide +kernel, _, rfl, ifF (by simp) ?_⟩
          refine ⟨_, rfl, qt, _, rfl, .inr (SqT.of hqt), rfl, _, rfl, ifF (by simp) ?_⟩
          refine ⟨_, rfl, qt, _, _, _, rfl, rfl, SqT.of hqt, rfl, rfl, _, rfl, ifT (by decide +kernel) (no rfl)⟩
    | try_ ts =>
      obtain ⟨qt, xs, rfl, hqt, hx⟩ := ht'.inv
      cases hx with
      | cons h1 h2 =>
        cases h2 with
        | cons h3 h4 =>
          cases h4
          cases h1
          obtain ⟨qs, vs, rfl, hqs, hvs⟩ := h3.inv
          have hvl := hvs.length
          rw [das_map, List.length_map] at hvl
          refine ⟨_, rfl, _, _, _, true, rfl, .base (.tup hqt), by decide +kernel, _, rfl, ifF (by simp) ?_⟩
          refine ⟨_, rfl, qt, _, rfl, .inr (SqT.of hqt), rfl, _, rfl, ifF (by simp) ?_⟩
          refine ⟨_, rfl, qt, _, _, _, rfl, rfl, SqT.of hqt, rfl, rfl, _, rfl, ifF (by simp) ?_⟩
          refine ⟨_, rfl, qt, _, _, _, rfl, rfl, SqT.of hqt, rfl, _, _, _, true, rfl, .base (.tup hqs), by decide +kernel, _, rfl, ifF (by simp) ?_⟩
          refine ⟨_, rfl, qt, _, _, _, rfl, rfl, SqT.of hqt, rfl, qs, vs, rfl, .inr (SqT.of hqs), _, rfl, a.p, CR, a.dx, _, _, rfl, S.obj, T.cl, T.nU, lkU, _, _, rfl, rfl, _, rfl, _, _, rfl, rfl, _, rfl, ?_⟩
          have em : (if ((most : Nat) : Int) < ((usd k ws : Nat) : Int) + 1 then ((most : Nat) : Int) else ((usd k ws : Nat) : Int) + 1) = ((min (usd k ws + 1) most : Nat) : Int) := by
            split <;> omega
          rw [em]
          have ae := acc_try (R := R) (W := W) (most := most) (rest := r) (ws := ws) (ts := ts) fc
          by_cases hlen : ts.length = min (usd k ws + 1) most
          · refine ifF (by rw [hvl, hlen]; simp) ?_
            rw [decide_eq_true hlen, Bool.true_and] at ae
            have hw : full[ws.length]? = some w := by rw [ef, List.getElem?_append_right (Nat.le_refl _)]; simp
            obtain ⟨wv, hwv, dwv⟩ := hus.at (i := ws.length) (p := wd w) (by rw [List.getElem?_map, hw]; rfl)
            refine ⟨_, rfl, qt, _, _, _, rfl, rfl, SqT.of hqt, rfl, qs, vs, rfl, SqT.of hqs, for_it (walk_enumT (K := K) (a := qs) (xs := vs)) (fun i σ H2 => Same H' H2 ∧ (∃ g7 g8 g9, σ = [some (.ref a.p), some (.ref q), some u, some (.int ((most : Nat) : Int)), some (.ref qt), some (.int 2), some (.int ((ws.length : Nat) : Int)), g7, g8, g9]) ∧
              ∀ j (hj : j < ts.length), j < i → (if (clash (ext k w j) (ws ++ [w]) R W j).isSome = true then isBad (ext k w j) (ws ++ [w]) R W ts[j] else acc R W most r (ws ++ [w]) (ext k w j) ts[j]) = true) ⟨Same.refl _, ⟨_, _, _, rfl⟩, fun j hj z => absurd z (Nat.not_lt_zero _)⟩ (fun i σ H2 _ h => SqT.of (h.1 _ _ hqs)) (fun i x σ H2 H3 hi h y => ?_) (fun σ H2 h => ?_)⟩
            · obtain ⟨s2, ⟨g7', g8, g9, rfl⟩, done⟩ := h
              obtain ⟨Tp, e1, e2, rfl, hT, rfl, y1, y2⟩ := y
              obtain rfl := Option.some.inj y1
              have hi2 : i < ts.length := by omega
              obtain ⟨p2, hp2, dt⟩ := hvs.get y2
              rw [das_map, List.getElem?_map, List.getElem?_eq_getElem hi2] at hp2
              obtain rfl := Option.some.inj hp2
              have s3 : Same H' (upd H2 Tp (.tup [.int ((i : Nat) : Int), e2])) := s2.trans (Same.upd hT)
              have hTp : upd H2 Tp (.tup [.int ((i : Nat) : Int), e2]) Tp = some (.tup [.int ((i : Nat) : Int), e2]) := upd_same
              generalize upd H2 Tp (.tup [.int ((i : Nat) : Int), e2]) = H3 at s3 hTp ⊢
              refine ⟨Tp, _, rfl, SqT.of hTp, rfl, _, _, rfl, _, _, rfl, rfl, ?_⟩
              have S3 := S.same s3
              refine ⟨_, rfl, a.p, a.dx, _, rfl, S3.obj, noC, a, k, ws, R, W, rfl, S3, fun a2 H4 s4 S4 fr4 => ?_⟩
              have s34 := s3.trans s4
              have st : Step k (ext k w i) ws w i := pf.step ef (.inl fc)
              have dwv4 := (dwv.mono tp).mono (same_tp s34)
              have hq4 := s34 _ _ hq'
              refine ⟨_, rfl, a2.p, a2.dx, _, rfl, S4.obj, noGi, _, rfl, _, rfl, q, _, _, _, rfl, rfl, SqL.of hq4, atI_nat hwv, _, rfl, _, rfl, a2, k, ext k w i, ws, R, W, wv, w, i, u, rfl, S4, dwv4, hu'.mono (same_tp s34), st, ?_, fun x H5 S5 o5 cv => ?_⟩
              · have := pf.few
                rw [ef, List.length_append, List.length_cons] at this
                omega
              have fresh2 : ∀ b ∈ a2.fp, H' b = none := fun b hb => by
                have := fr4 b hb
                cases c : H' b with
                | none => rfl
                | some o => rw [s3 _ _ c] at this; cases this
              have s45 : ∀ {H6 : Hp}, Out a2.fp H4 H6 → Same H' H6 := fun {H6} o b v e => o b v (fun z => by rw [fresh2 b z] at e; cases e) (s34 b v e)
              have s5 := s45 o5
              have dt5 := dt.mono (same_tp s5)
              have hu5 := hu'.mono (same_tp s5)
              have ci := clash_isSome cv
              refine ⟨rfl, _, rfl, ?_⟩
              have allF : ∀ {c : Bool}, (if (clash (ext k w i) (ws ++ [w]) R W i).isSome = true then isBad (ext k w i) (ws ++ [w]) R W ts[i] else acc R W most r (ws ++ [w]) (ext k w i) ts[i]) = c → c = false → acc R W most (w :: r) ws k (.try_ ts) = false := fun {c} e1 e2 => by
                rw [ae, List.all_eq_false]
                refine ⟨(ts[i], i), ?_, ?_⟩
                · rw [List.mem_zipIdx_iff_getElem?]
                  exact List.getElem?_eq_getElem hi2
                · rw [e1, e2]; decide
              have go : ∀ {H6 : Hp} {σ6 : St}, Same H' H6 → (∃ g7 g8 g9, σ6 = [some (.ref a.p), some (.ref q), some u, some (.int ((most : Nat) : Int)), some (.ref qt), some (.int 2), some (.int ((ws.length : Nat) : Int)), g7, g8, g9]) → (if (clash (ext k w i) (ws ++ [w]) R W i).isSome = true then isBad (ext k w i) (ws ++ [w]) R W ts[i] else acc R W most r (ws ++ [w]) (ext k w i) ts[i]) = true →
                  Same H' H6 ∧ (∃ g7 g8 g9, σ6 = [some (.ref a.p), some (.ref q), some u, some (.int ((most : Nat) : Int)), some (.ref qt), some (.int 2), some (.int ((ws.length : Nat) : Int)), g7, g8, g9]) ∧ ∀ j (hj : j < ts.length), j < i + 1 → (if (clash (ext k w j) (ws ++ [w]) R W j).isSome = true then isBad (ext k w j) (ws ++ [w]) R W ts[j] else acc R W most r (ws ++ [w]) (ext k w j) ts[j]) = true :=
                fun {H6 σ6} a b c => ⟨a, b, fun j hj lt => by
                  by_cases e : j = i
                  · subst e; exact c
                  · exact done j hj (by omega)⟩
              by_cases hx : x = .non
              · have cf := ci.mp hx
                refine ifF (by simp [hx]) ?_
                obtain ⟨n', rfl⟩ : ∃ n', n = n' + 1 := ⟨n - 1, by rw [List.length_cons] at hle; omega⟩
                refine ⟨_, rfl, _, rfl, _, rfl, _, rfl, _, rfl, _, rfl, a2, _, _, r, full, R, W, q, us, u, _, ts[i], most, rfl, S5, by rw [ef]; simp, by rw [List.length_cons] at hle; omega, pf, s5 _ _ hq', (hus.mono tp).mono (same_tp s5), hu5, dt5, bR, bW, fun H6 o6 => ⟨_, rfl, ?_⟩⟩
                have s6 := s45 (o5.trans o6)
                cases bd : acc R W most r (ws ++ [w]) (ext k w i) ts[i] with
                | true => exact ifF (by simp) (go s6 ⟨_, _, _, rfl⟩ (by rw [cf]; exact bd))
                | false =>
                  refine ifT (by simp) ?_
                  have := kk H6 (oo.trans (out_same s6))
                  rw [allF (by rw [cf]; exact bd) rfl] at this
                  exact this
              · have ct : (clash (ext k w i) (ws ++ [w]) R W i).isSome = true := by
                  cases c : (clash (ext k w i) (ws ++ [w]) R W i).isSome with
                  | true => rfl
                  | false => exact absurd (ci.mpr c) hx
                refine ifT (by simp [hx]) ?_
                refine ⟨_, rfl, _, rfl, _, rfl, _, rfl, a2, _, _, R, W, u, _, ts[i], rfl, S5, hu5, dt5, bR, bW, _, rfl, ?_⟩
                cases bd : isBad (ext k w i) (ws ++ [w]) R W ts[i] with
                | true => exact ifF (by simp) (go s5 ⟨_, _, _, rfl⟩ (by rw [if_pos ct]; exact bd))
                | false =>
                  refine ifT (by simp) ?_
                  have := kk H5 (oo.trans (out_same s5))
                  rw [allF (by rw [if_pos ct]; exact bd) rfl] at this
                  exact this
            · obtain ⟨s2, ⟨g7', g8, g9, rfl⟩, done⟩ := h
              have e : acc R W most (w :: r) ws k (.try_ ts) = true := by
                rw [ae, List.all_eq_true]
                rintro ⟨p, j⟩ hp
                rw [List.mem_zipIdx_iff_getElem?] at hp
                obtain ⟨hj, ej⟩ := List.getElem?_eq_some_iff.mp hp
                have := done j hj (by omega)
                rw [ej] at this
                exact this
              have := kk H2 (oo.trans (out_same s2))
              rw [e] at this
              exact this
          · refine ifT (by rw [hvl]; simp; omega) ?_
            rw [decide_eq_false hlen, Bool.false_and] at ae
            rw [ae] at kk'
            exact kk'
end
end Toy

set_option Elab.async false
set_option linter.all false
set_option maxRecDepth 100000
set_option maxHeartbeats 4000000
namespace Toy
open PySem L2
def rowB (n : Nat) (r : Rw) : Bool := decide (r.1 < 2) && decide (r.2.1 < n) && decide (r.2.2 < n)
def fullB (l : List Rw) : Bool := !l.isEmpty && l.all (rowB l.length)
def spFull : Sp := fun vs H Q _ => ∃ v l, vs = [v, .int 2] ∧ DV H v (rwsD l) ∧ ∀ H', Same H H' → Q (.bl (fullB l)) H'
def endRw (l : List Rw) (n : Nat) : Nat := (l.getD n (0, 0, 0)).1
def fitsB (l : List Rw) (R W : List (List Nat)) : Bool := (R.all fun w => decide (endRw l (walkRw l 0 w) = 1)) && W.all fun w => decide (endRw l (walkRw l 0 w) = 0)
def spFits : Sp := fun vs H Q _ => ∃ v u t l R W, vs = [v, u, t] ∧ DV H v (rwsD l) ∧ DV H u (.tup (R.map wd)) ∧ DV H t (.tup (W.map wd)) ∧ Bin R ∧ Bin W ∧ okRw l ∧ l ≠ [] ∧ Q (.bl (fitsB l R W)) H
theorem walkRw_lt {l : List Rw} (ok : okRw l) : ∀ (w : List Nat) (n : Nat), n < l.length → walkRw l n w < l.length
  | [], n, h => h
  | c :: w, n, h => by
    refine walkRw_lt ok w _ ?_
    have m : l.getD n (0, 0, 0) ∈ l := by
      rw [List.getD_eq_getElem?_getD, List.getElem?_eq_getElem h]
      exact List.getElem_mem h
    have := ok _ m
    unfold goRw
    split <;> omega
theorem in01 (n : Nat) : inV (V.int ((n : Nat) : Int)) [V.int 0, V.int 1] = decide (n < 2) := by
  rw [Bool.eq_iff_iff, decide_eq_true_eq]
  simp [inV, eqV]
  omega
section
variable {P : Program} {w : World} {K : PySem.W.Frag} {mg : Str → Option Value} {base : Heap} {CR : Addr}
abbrev s_is_full_watcher : Stmt := top 14
theorem sc_is_full_watcher : FnScope ["rows", "base", "ends", "nexts", "number"] ["rows", "base"] (defScope s_is_full_watcher) := ⟨rfl, rfl, rfl, by decide +kernel, rfl, by decide +kernel, by decide +kernel⟩

theorem ok_full {f : Addr} {fd : FuncData} (F : Fun K "is_full_watcher" "is_full_watcher" s_is_full_watcher f fd) (T : Txt K mg CR) (C_is_whole : CalX P w K mg base CX0 1 "is_whole" spIsInt) (C_is_wholes : CalX P w K mg base CX0 2 "is_wholes" spWholes) (C_is_rows : CalX P w K mg base CX0 1 "is_rows" spRows) :
    FnOk P w K mg base CX0 3 f fd ["rows", "base"] spFull := by
  refine F.ok sc_is_full_watcher (fun vs H Q E h => ?_) (fun cdv A outer s H vs Q E hr h => ?_)
  · obtain ⟨v, l, rfl, _⟩ := h
    rfl
  obtain ⟨v, l, rfl, hv, k⟩ := h
  obtain ⟨a, us, rfl, ha, hs⟩ := hv.inv
  have hul := hs.length
  rw [List.length_map] at hul
  refine ⟨_, (pss_cons (ps_if (PW.pt (pw_or (pt_not (pt_val (pe_u C_is_rows hr (by omega) pass0 (pa_cons (pv 0) (pa_cons pe_int pa_nil))))) (pw_or1 (pt_not (pt_truth (pv 0) (by intro _; rfl)))))) (pss_one (ps_ret pe_bl)) pss_nil)
    (pss_cons (ps_for PassesOwn.never rfl (pi_tup (pv 0)) (pg_tup (by rfl) (pgs_cons (pg_name (i := 2) sc_is_full_watcher.nd rfl (Or.inl rfl)) (pgs_cons (pg_name (i := 3) sc_is_full_watcher.nd rfl (Or.inl rfl)) pgs_nil))) (pss_cons (ps_if (PW.pt (pw_or (pt_not (pt_val (pe_u C_is_whole hr (by omega) pass0 (pa_cons (pv 2) pa_nil)))) (pw_or (pt_cmpR op_notIn_seq (pv 2) (pe_tup (pa_cons pe_int (pa_cons pe_int pa_nil))) rfl) (pw_or (pt_not (pt_val (pe_u C_is_wholes hr (by omega) pass0 (pa_cons (pv 3) pa_nil)))) (pw_or1 (pt_cmpR op_ne (pe_callB call_len_seq (by rfl) T.z_len b_len (pa_cons (pv 3) pa_nil)) (pv 1) (nomark _))))))) (pss_one (ps_ret pe_bl)) pss_nil)
    (pss_one (ps_for PassesOwn.never rfl (pi_tup (pv 3)) (pg_name (i := 4) sc_is_full_watcher.nd rfl (Or.inl rfl)) (pss_one (ps_if (pt_not (pt_chain op_le op_lt pe_int (pv 4) (pe_callB call_len_seq (by rfl) T.z_len b_len (pa_cons (pv 0) pa_nil)))) (pss_one (ps_ret pe_bl)) pss_nil))))))
    (pss_one (ps_ret pe_bl)))), ?_⟩
  refine ⟨_, rfl, _, l, rfl, hv, _, rfl, ifF (by simp) ?_⟩
  refine ⟨_, rfl, _, .inr (.inl ⟨us, SqT.of ha, rfl⟩), ?_⟩
  by_cases hl : l = []
  · subst hl
    have : us = [] := List.length_eq_zero_iff.mp hul
    subst this
    exact ifT (by simp) (k H (Same.refl H))
  have une : us.isEmpty = false := by
    cases us with
    | nil => exact absurd (List.length_eq_zero_iff.mp hul.symm) hl
    | cons _ _ => rfl
  refine ifF (by rw [une]; simp) ?_
  have fb : fullB l = l.all (rowB l.length) := by unfold fullB; cases l; exact absurd rfl hl; rfl
  refine ⟨_, rfl, a, rfl, ⟨_, SqT.of ha⟩, for_tup (K := K) (a := a) (xs := us) (fun i σ H' => Same H H' ∧ (∃ g1 g2 g3, σ = [some (.ref a), some (.int 2), g1, g2, g3]) ∧ ∀ j (hj : j < l.length), j < i → rowB l.length l[j] = true) ⟨Same.refl H, ⟨_, _, _, rfl⟩, fun j hj z => absurd z (Nat.not_lt_zero _)⟩ (fun i σ H' _ h => SqT.of (h.1 _ _ ha)) (fun i x σ H' hx h => ?_) (fun σ H' h => ?_)⟩
  · obtain ⟨s1, ⟨g1, g2, g3, rfl⟩, done⟩ := h
    have hi : i < l.length := by have := (List.getElem?_eq_some_iff.mp hx).1; omega
    obtain ⟨q, b, e1, e2, e3⟩ := row_at hs hi
    rw [hx] at e1
    obtain rfl := Option.some.inj e1
    have er : l.getD i (0, 0, 0) = l[i] := by rw [List.getD_eq_getElem?_getD, List.getElem?_eq_getElem hi]; rfl
    rw [er] at e2 e3
    have bad : rowB l.length l[i] = false → ∀ H2, Same H H2 → Q (.bl false) H2 := fun e H2 s2 => by
      have z : fullB l = false := by
        rw [fb, List.all_eq_false]
        exact ⟨l[i], List.getElem_mem hi, by rw [e]; decide⟩
      have := k H2 s2
      rw [z] at this
      exact this
    refine ⟨q, _, rfl, SqT.of (s1 _ _ e2), rfl, _, _, rfl, _, _, rfl, rfl, ?_⟩
    refine ⟨_, rfl, _, rfl, _, rfl, ifF (by simp) ?_⟩
    refine ⟨_, rfl, by show 2 ≤ sizeLine; decide, fun t ht => ⟨t, _, rfl, .inr (SqT.of upd_same), rfl, rfl, _, rfl, ?_⟩⟩
    have s2 : Same H (upd H' t (.tup [V.int 0, V.int 1])) := s1.trans (Same.upd ht)
    generalize upd H' t (.tup [V.int 0, V.int 1]) = H2 at s2 ⊢
    rw [in01]
    by_cases c1 : l[i].1 < 2
    · refine ifF (by simp [c1]) ?_
      have db : DV H2 (.ref b) (wd [l[i].2.1, l[i].2.2]) := .of_word (s2 _ _ e3)
      refine ⟨_, rfl, _, _, rfl, db, _, rfl, ifF (by simp) ?_⟩
      refine ⟨_, rfl, b, _, rfl, .inr (SqT.of (s2 _ _ e3)), _, rfl, rfl, _, rfl, ifF (by simp) ?_⟩
      refine ⟨_, rfl, b, rfl, ⟨_, SqT.of (s2 _ _ e3)⟩, for_tup (K := K) (a := b) (xs := [.int ((l[i].2.1 : Nat) : Int), .int ((l[i].2.2 : Nat) : Int)]) (fun m σ H' => H' = H2 ∧ (∃ g1 g2 g3, σ = [some (.ref a), some (.int 2), g1, g2, g3]) ∧ (0 < m → l[i].2.1 < l.length) ∧ (1 < m → l[i].2.2 < l.length)) ⟨rfl, ⟨_, _, _, rfl⟩, fun z => absurd z (Nat.lt_irrefl _), fun z => absurd z (by omega)⟩ (fun _ σ H' _ h => by rw [h.1]; exact SqT.of (s2 _ _ e3)) (fun m x σ H' hx h => ?_) (fun σ H' h => ?_)⟩
      · obtain ⟨rfl, ⟨g1, g2, g3, rfl⟩, d0, d1⟩ := h
        have hm : (m = 0 ∧ x = .int ((l[i].2.1 : Nat) : Int)) ∨ (m = 1 ∧ x = .int ((l[i].2.2 : Nat) : Int)) := by
          rcases m with _ | _ | m
          · simp at hx; exact .inl ⟨rfl, hx.symm⟩
          · simp at hx; exact .inr ⟨rfl, hx.symm⟩
          · simp at hx
        rcases hm with ⟨rfl, rfl⟩ | ⟨rfl, rfl⟩
        · refine ⟨_, rfl, _, _, rfl, rfl, _, rfl, ite2 (fun d => ?_) (fun d => absurd (decide_eq_true (by omega)) d)⟩
          refine ⟨_, rfl, a, _, rfl, .inr (SqT.of (s2 _ _ ha)), _, _, rfl, rfl, _, rfl, ite2 (fun d => ?_) (fun d => ?_)⟩
          · have d' : ¬ l[i].2.1 < l.length := by simp at d; omega
            exact bad (by unfold rowB; simp [d']) _ s2
          · have d' : l[i].2.1 < l.length := by simp at d; omega
            exact ⟨rfl, ⟨_, _, _, rfl⟩, fun _ => d', fun z => absurd z (by omega)⟩
        · refine ⟨_, rfl, _, _, rfl, rfl, _, rfl, ite2 (fun d => ?_) (fun d => absurd (decide_eq_true (by omega)) d)⟩
          refine ⟨_, rfl, a, _, rfl, .inr (SqT.of (s2 _ _ ha)), _, _, rfl, rfl, _, rfl, ite2 (fun d => ?_) (fun d => ?_)⟩
          · have d' : ¬ l[i].2.2 < l.length := by simp at d; omega
            exact bad (by unfold rowB; simp [d']) _ s2
          · have d' : l[i].2.2 < l.length := by simp at d; omega
            exact ⟨rfl, ⟨_, _, _, rfl⟩, fun _ => d0 (by omega), fun _ => d'⟩
      · obtain ⟨rfl, ⟨g1, g2, g3, rfl⟩, d0, d1⟩ := h
        refine ⟨s2, ⟨_, _, _, rfl⟩, fun j hj lt => ?_⟩
        by_cases e : j = i
        · subst e
          have := d0 (by simp)
          have := d1 (by simp)
          unfold rowB
          simp [*]
        · exact done j hj (by omega)
    · exact ifT (by simp [c1]) (bad (by unfold rowB; simp [c1]) _ s2)
  · obtain ⟨s1, ⟨g1, g2, g3, rfl⟩, done⟩ := h
    have z : fullB l = true := by
      rw [fb, List.all_eq_true]
      intro x hx
      obtain ⟨j, hj, rfl⟩ := List.getElem_of_mem hx
      exact done j hj (by omega)
    have := k H' s1
    rw [z] at this
    exact this
abbrev s_watcher_fits : Stmt := top 15
theorem sc_watcher_fits : FnScope ["rows", "right", "wrong", "file"] ["rows", "right", "wrong"] (defScope s_watcher_fits) := ⟨rfl, rfl, rfl, by decide +kernel, rfl, by decide +kernel, by decide +kernel⟩

theorem ok_fits {f : Addr} {fd : FuncData} (F : Fun K "watcher_fits" "watcher_fits" s_watcher_fits f fd) (T : Txt K mg CR) (C_walk : CalX P w K mg base CX0 1 "walk" spWalk) : FnOk P w K mg base CX0 2 f fd ["rows", "right", "wrong"] spFits := by
  refine F.ok sc_watcher_fits (fun vs H Q E h => ?_) (fun cdv A outer s H vs Q E hr h => ?_)
  · obtain ⟨v, u, t, l, R, W, rfl, _⟩ := h
    rfl
  obtain ⟨v, u, t, l, R, W, rfl, hv, hu, ht, bR, bW, ok, ln, k⟩ := h
  obtain ⟨a, us, rfl, ha, hs⟩ := hv.inv
  obtain ⟨b, rs, rfl, hb, hrs⟩ := hu.inv
  obtain ⟨c, ws, rfl, hc, hws⟩ := ht.inv
  have hrl := hrs.length
  have hwl := hws.length
  rw [List.length_map] at hrl hwl
  have lpos : 0 < l.length := List.length_pos_iff.mpr ln
  refine ⟨_, (pss_cons (ps_for PassesOwn.never rfl (pi_tup (pv 1)) (pg_name (i := 3) sc_watcher_fits.nd rfl (Or.inl rfl)) (pss_one (ps_if (pt_cmpR op_ne (pe_ix ix_tup (pe_ix ix_tup (pv 0) (pe_u C_walk hr (by omega) pass0 (pa_cons (pv 0) (pa_cons pe_int (pa_cons (pv 3) pa_nil)))) (fun _ _ => rfl)) pe_int (fun _ _ => rfl)) pe_int (nomark _)) (pss_one (ps_ret pe_bl)) pss_nil)))
    (pss_cons (ps_for PassesOwn.never rfl (pi_tup (pv 2)) (pg_name (i := 3) sc_watcher_fits.nd rfl (Or.inl rfl)) (pss_one (ps_if (pt_cmpR op_ne (pe_ix ix_tup (pe_ix ix_tup (pv 0) (pe_u C_walk hr (by omega) pass0 (pa_cons (pv 0) (pa_cons pe_int (pa_cons (pv 3) pa_nil)))) (fun _ _ => rfl)) pe_int (fun _ _ => rfl)) pe_int (nomark _)) (pss_one (ps_ret pe_bl)) pss_nil)))
    (pss_one (ps_ret pe_bl)))), ?_⟩
  refine ⟨_, rfl, b, rfl, ⟨_, SqT.of hb⟩, for_tup (K := K) (a := b) (xs := rs) (fun i σ H' => H' = H ∧ (∃ g, σ = [some (.ref a), some (.ref b), some (.ref c), g]) ∧ ∀ j (hj : j < R.length), j < i → endRw l (walkRw l 0 R[j]) = 1) ⟨rfl, ⟨_, rfl⟩, fun j hj z => absurd z (Nat.not_lt_zero _)⟩ (fun i σ H' _ h => by rw [h.1]; exact SqT.of hb) (fun i x σ H' hx h => ?_) (fun σ H' h => ?_)⟩
  · obtain ⟨rfl, ⟨g, rfl⟩, done⟩ := h
    obtain ⟨p, hp, dx⟩ := hrs.get hx
    rw [List.getElem?_map] at hp
    obtain ⟨w0, hw0, rfl⟩ := Option.map_eq_some_iff.mp hp
    obtain ⟨hi, ew⟩ := List.getElem?_eq_some_iff.mp hw0
    obtain ⟨q, e, h1, h2, h3⟩ := row_at hs (walkRw_lt ok w0 0 lpos)
    refine ⟨_, rfl, _, rfl, _, rfl, _, _, l, 0, w0, rfl, hv, dx, bR w0 (List.mem_of_getElem? hw0), ok, lpos, a, _, _, _, rfl, rfl, SqT.of ha, atI_nat h1, q, _, _, _, rfl, rfl, SqT.of h2, rfl, rfl, _, rfl, ite2 (fun d => ?_) (fun d => ?_)⟩
    · have d' : ¬ endRw l (walkRw l 0 w0) = 1 := fun z => by
        have z : (l.getD (walkRw l 0 w0) (0, 0, 0)).1 = 1 := z
        rw [z] at d
        exact absurd d (by decide)
      have e : fitsB l R W = false := by
        unfold fitsB
        rw [Bool.and_eq_false_iff]
        refine .inl (List.all_eq_false.mpr ⟨w0, List.mem_of_getElem? hw0, by rw [decide_eq_false d']; decide⟩)
      rw [e] at k
      exact k
    · have d' : endRw l (walkRw l 0 w0) = 1 := by
        have : (V.int (((l.getD (walkRw l 0 w0) (0, 0, 0)).1 : Nat) : Int)) = V.int 1 := by simpa using d
        injection this with this
        show (l.getD (walkRw l 0 w0) (0, 0, 0)).1 = 1
        omega
      refine ⟨rfl, ⟨_, rfl⟩, fun j hj lt => ?_⟩
      by_cases c : j = i
      · subst c; rw [ew]; exact d'
      · exact done j hj (by omega)
  · obtain ⟨rfl, ⟨g, rfl⟩, done⟩ := h
    have allR : (R.all fun w => decide (endRw l (walkRw l 0 w) = 1)) = true := by
      rw [List.all_eq_true]
      intro x hx
      obtain ⟨j, hj, rfl⟩ := List.getElem_of_mem hx
      exact decide_eq_true (done j hj (by omega))
    refine ⟨_, rfl, c, rfl, ⟨_, SqT.of hc⟩, for_tup (K := K) (a := c) (xs := ws) (fun i σ H2 => H2 = H' ∧ (∃ g, σ = [some (.ref a), some (.ref b), some (.ref c), g]) ∧ ∀ j (hj : j < W.length), j < i → endRw l (walkRw l 0 W[j]) = 0) ⟨rfl, ⟨_, rfl⟩, fun j hj z => absurd z (Nat.not_lt_zero _)⟩ (fun i σ H2 _ h => by rw [h.1]; exact SqT.of hc) (fun i x σ H2 hx h => ?_) (fun σ H2 h => ?_)⟩
    · obtain ⟨rfl, ⟨g, rfl⟩, done⟩ := h
      obtain ⟨p, hp, dx⟩ := hws.get hx
      rw [List.getElem?_map] at hp
      obtain ⟨w0, hw0, rfl⟩ := Option.map_eq_some_iff.mp hp
      obtain ⟨hi, ew⟩ := List.getElem?_eq_some_iff.mp hw0
      obtain ⟨q, e, h1, h2, h3⟩ := row_at hs (walkRw_lt ok w0 0 lpos)
      refine ⟨_, rfl, _, rfl, _, rfl, _, _, l, 0, w0, rfl, hv, dx, bW w0 (List.mem_of_getElem? hw0), ok, lpos, a, _, _, _, rfl, rfl, SqT.of ha, atI_nat h1, q, _, _, _, rfl, rfl, SqT.of h2, rfl, rfl, _, rfl, ite2 (fun d => ?_) (fun d => ?_)⟩
      · have d' : ¬ endRw l (walkRw l 0 w0) = 0 := fun z => by
          have z : (l.getD (walkRw l 0 w0) (0, 0, 0)).1 = 0 := z
          rw [z] at d
          exact absurd d (by decide)
        have e : fitsB l R W = false := by
          unfold fitsB
          rw [Bool.and_eq_false_iff]
          refine .inr (List.all_eq_false.mpr ⟨w0, List.mem_of_getElem? hw0, by rw [decide_eq_false d']; decide⟩)
        rw [e] at k
        exact k
      · have d' : endRw l (walkRw l 0 w0) = 0 := by
          have : (V.int (((l.getD (walkRw l 0 w0) (0, 0, 0)).1 : Nat) : Int)) = V.int 0 := by simpa using d
          injection this with this
          show (l.getD (walkRw l 0 w0) (0, 0, 0)).1 = 0
          omega
        refine ⟨rfl, ⟨_, rfl⟩, fun j hj lt => ?_⟩
        by_cases c : j = i
        · subst c; rw [ew]; exact d'
        · exact done j hj (by omega)
    · obtain ⟨rfl, ⟨g, rfl⟩, done2⟩ := h
      have e : fitsB l R W = true := by
        unfold fitsB
        rw [Bool.and_eq_true]
        refine ⟨allR, ?_⟩
        rw [List.all_eq_true]
        intro x hx
        obtain ⟨j, hj, rfl⟩ := List.getElem_of_mem hx
        exact decide_eq_true (done2 j hj (by omega))
      rw [e] at k
      exact k
end
end Toy

set_option Elab.async false
set_option linter.all false
set_option maxRecDepth 100000
set_option maxHeartbeats 4000000
namespace Toy
open PySem L2
inductive An where
  | more (t : Tr) | few (l : List Rw) (t : Tr)
def An.da : An → Da
  | .more t => .tup [.str "more", t.da]
  | .few l t => .tup [.str "fewest", rwsD l, t.da]
def isNon : Tr → Bool
  | .non => true
  | _ => false
abbrev k0 : Lk := fun _ _ => none
def judgeB (full R W : List (List Nat)) (most : Nat) : An → Bool
  | .more t => acc R W most full [] k0 t
  | .few l t => fullB l && (decide (l.length ≤ most) && (fitsB l R W && if l.length = 1 then isNon t else acc R W (l.length - 1) full [] k0 t))
theorem da_non {H : Hp} {v : V} {t : Tr} (h : DV H v t.da) : decide (v = .non) = isNon t := by
  cases t with
  | non => cases h; rfl
  | fits => obtain ⟨_, _, rfl, _⟩ := h.inv; rfl
  | bad1 a => obtain ⟨_, _, rfl, _⟩ := h.inv; rfl
  | bad a b => obtain ⟨_, _, rfl, _⟩ := h.inv; rfl
  | try_ ts => obtain ⟨_, _, rfl, _⟩ := h.inv; rfl
theorem beg_pre {fs full : List (List Nat)} (so : SortedW full) (me : ∀ w, w ∈ full ↔ Beg fs w) (few : full.length ≤ 900) : Pre full := by
  refine ⟨so.nodup, few, fun ws w rest e => ?_⟩
  by_cases h : w = []
  · exact .inl h
  · right
    have hm : w ∈ full := by rw [e]; simp
    have hb : Beg fs w.dropLast := by
      rcases (me w).mp hm with z | ⟨x, hx, p⟩
      · exact absurd z h
      · exact .inr ⟨x, hx, (List.dropLast_prefix w).trans p⟩
    have hd := (me _).mpr hb
    rw [e] at hd so
    have lt : ltW w.dropLast w = true := ltW_len (by
      have : w.length ≠ 0 := fun z => h (List.length_eq_zero_iff.mp z)
      rw [List.length_dropLast]; omega)
    rcases List.mem_append.mp hd with m | m
    · exact m
    · exfalso
      rcases List.mem_cons.mp m with z | m
      · rw [z, ltW_irr] at lt; cases lt
      · have := (List.pairwise_append.mp so).2.1
        have := (List.pairwise_cons.mp this).1 _ m
        rw [ltW_asym lt] at this; cases this
def spJudge (n : Nat) : Sp := fun vs H Q _ => ∃ vr vw v R W an full most, vs = [.int 2, vr, vw, .int ((most : Nat) : Int), v] ∧ DV H vr (.tup (R.map wd)) ∧ DV H vw (.tup (W.map wd)) ∧ DV H v (An.da an) ∧ SortedW full ∧ (∀ w, w ∈ full ↔ Beg (R ++ W) w) ∧ full.length ≤ n ∧ n ≤ 900 ∧
  Bin R ∧ Bin W ∧ ((R ++ W).map List.length).sum ≤ 900 ∧ R.length + W.length ≤ 900 ∧ ∀ H', Same H H' → Q (.bl (judgeB full R W most an)) H'
theorem inM (n : Nat) : inV (V.int ((n : Nat) : Int)) [V.int 2, V.int 3] = decide (n = 2 ∨ n = 3) := by
  rw [Bool.eq_iff_iff, decide_eq_true_eq]
  simp [inV, eqV]
  omega
section
variable {P : Program} {w : World} {K : PySem.W.Frag} {mg : Str → Option Value} {base : Heap} {CR : Addr}
abbrev s_judge_fewest : Stmt := top 16
theorem sc_judge_fewest : FnScope ["base", "right", "wrong", "most", "answer", "words", "samples", "head", "rows", "tree"] ["base", "right", "wrong", "most", "answer"] (defScope s_judge_fewest) := ⟨rfl, rfl, rfl, by decide +kernel, rfl, by decide +kernel, by decide +kernel⟩

theorem ok_judge {n : Nat} {f : Addr} {fd : FuncData} (F : Fun K "judge_fewest" "judge_fewest" s_judge_fewest f fd) (T : Txt K mg CR) (C_beginnings_of : CalX P w K mg base CX0 2 "beginnings_of" spBeg) (C_bars : CalX P w K mg base CX0 (n + 4) "bars" (spBars CR (n + 1))) (N_RowState : MakX P w K mg base CX0 1 "RowState" CR (spInit CR))
    (C_is_full_watcher : CalX P w K mg base CX0 3 "is_full_watcher" spFull) (C_watcher_fits : CalX P w K mg base CX0 2 "watcher_fits" spFits) : FnOk P w K mg base CX0 (n + 5) f fd ["base", "right", "wrong", "most", "answer"] (spJudge n) := by
  refine F.ok sc_judge_fewest (fun vs H Q E h => ?_) (fun cdv A outer s H vs Q E hr h => ?_)
  · obtain ⟨vr, vw, v, R, W, an, full, most, rfl, _⟩ := h
    rfl
  obtain ⟨vr, vw, v, R, W, an, full, most, rfl, hR, hW, hv, so, me, hfl, hn, bR, bW, hsum, hlen, k⟩ := h
  have hr : Room (n + 4) _ := hr
  obtain ⟨cr, rs, rfl, hcr, hrs⟩ := hR.inv
  obtain ⟨cw, us, rfl, hcw, hws⟩ := hW.inv
  have hrl := hrs.length
  have hwl := hws.length
  rw [List.length_map] at hrl hwl
  have pf := beg_pre so me (by omega)
  refine ⟨_, (pss_cons (ps_if (PW.pt (pw_or (pt_not (pt_val (pe_callB call_isi2 (by rfl) T.z_isinstance b_isinstance (pa_cons (pv 4) (pa_cons (pe_bltn (v := .ty "tuple") (by rfl) T.z_tuple b_tuple rfl) pa_nil))))) (pw_or1 (pt_cmpR op_notIn_seq (pe_callB call_len_seq (by rfl) T.z_len b_len (pa_cons (pv 4) pa_nil)) (pe_tup (pa_cons pe_int (pa_cons pe_int pa_nil))) rfl)))) (pss_one (ps_ret pe_bl)) pss_nil)
    (pss_cons (ps_set (i := 5) sc_judge_fewest.nd rfl (Or.inl rfl) (pe_u C_beginnings_of hr (by omega) pass0 (pa_cons (pe_op op_catB (pv 1) (pv 2)) pa_nil)))
    (pss_cons (ps_set (i := 6) sc_judge_fewest.nd rfl (Or.inl rfl) (pe_tup (pa_cons (pv 1) (pa_cons (pv 2) pa_nil))))
    (pss_cons (ps_if (pt_cmpR op_eq (pe_callB call_len_seq (by rfl) T.z_len b_len (pa_cons (pv 4) pa_nil)) pe_int (nomark _)) (pss_one (ps_ret (pe_and (pe_cmpR op_eq (pe_ix ix_tup (pv 4) pe_int (fun _ _ => rfl)) pe_str (nomark _)) (pe_one (pe_u C_bars hr (by omega) pass0 (pa_cons (pe_n0 N_RowState hr (by omega) pass0) (pa_cons (pv 5) (pa_cons (pv 6) (pa_cons (pv 3) (pa_cons (pe_ix ix_tup (pv 4) pe_int (fun _ _ => rfl)) (pa_cons (pv 0) pa_nil))))))))))) pss_nil)
    (pss_cons (ps_asg (pv 4) (pg_tup (by rfl) (pgs_cons (pg_name (i := 7) sc_judge_fewest.nd rfl (Or.inl rfl)) (pgs_cons (pg_name (i := 8) sc_judge_fewest.nd rfl (Or.inl rfl)) (pgs_cons (pg_name (i := 9) sc_judge_fewest.nd rfl (Or.inl rfl)) pgs_nil)))))
    (pss_cons (ps_if (PW.pt (pw_or (pt_cmpR op_ne (pv 7) pe_str (nomark _)) (pw_or (pt_not (pt_val (pe_u C_is_full_watcher hr (by omega) pass0 (pa_cons (pv 8) (pa_cons (pv 0) pa_nil))))) (pw_or1 (pt_cmpR op_gt (pe_callB call_len_seq (by rfl) T.z_len b_len (pa_cons (pv 8) pa_nil)) (pv 3) (nomark _)))))) (pss_one (ps_ret pe_bl)) pss_nil)
    (pss_cons (ps_if (pt_not (pt_val (pe_u C_watcher_fits hr (by omega) pass0 (pa_cons (pv 8) (pa_cons (pv 1) (pa_cons (pv 2) pa_nil)))))) (pss_one (ps_ret pe_bl)) pss_nil)
    (pss_cons (ps_if (pt_cmpR op_eq (pe_callB call_len_seq (by rfl) T.z_len b_len (pa_cons (pv 8) pa_nil)) pe_int (nomark _)) (pss_one (ps_ret (pe_cmpR op_isN (pv 9) pe_non (nomark _)))) pss_nil)
    (pss_one (ps_ret (pe_u C_bars hr (by omega) pass0 (pa_cons (pe_n0 N_RowState hr (by omega) pass0) (pa_cons (pv 5) (pa_cons (pv 6) (pa_cons (pe_op op_sub (pe_callB call_len_seq (by rfl) T.z_len b_len (pa_cons (pv 8) pa_nil)) pe_int) (pa_cons (pv 9) (pa_cons (pv 0) pa_nil))))))))))))))))), ?_⟩
  have hda : ∃ l, An.da an = .tup l ∧ (l.length = 2 ∨ l.length = 3) := by cases an <;> exact ⟨_, rfl, by simp⟩
  obtain ⟨dl, eda, ell⟩ := hda
  rw [eda] at hv
  obtain ⟨q, xs, rfl, hq, hx⟩ := hv.inv
  have hxl := hx.length
  refine ⟨_, rfl, _, _, _, true, rfl, .base (.tup hq), by decide +kernel, _, rfl, ifF (by simp) ?_⟩
  refine ⟨_, rfl, q, _, rfl, .inr (SqT.of hq), by show 2 ≤ sizeLine; decide, fun t ht => ⟨t, _, rfl, .inr (SqT.of upd_same), rfl, rfl, _, rfl, ?_⟩⟩
  have s1 : Same H (upd H t (.tup [V.int 2, V.int 3])) := Same.upd ht
  generalize upd H t (.tup [V.int 2, V.int 3]) = H1 at s1 ⊢
  rw [inM]
  refine ifF (by rw [hxl]; simp [ell]) ?_
  refine ⟨_, rfl, _, rfl, cr, cw, rs, us, rfl, rfl, s1 _ _ hcr, s1 _ _ hcw, Nat.le_of_lt (small1000 (by omega)), fun p H2 s2 hp => ?_⟩
  have s12 := s1.trans s2
  refine ⟨p, _, R ++ W, rfl, hp, by rw [List.map_append]; exact (hrs.mono (same_tp s12)).append (hws.mono (same_tp s12)), hsum, fun q2 H3 us' ws s3 hq2 hvs so' me' => ?_⟩
  obtain rfl : ws = full := sorted_uniq so' so fun w => (me' w).trans (me w).symm
  have s13 := s12.trans s3
  refine ⟨_, rfl, _, rfl, by show 2 ≤ sizeLine; decide, fun sm hsm => ?_⟩
  have s4 : Same H3 (upd H3 sm (.tup [.ref cr, .ref cw])) := Same.upd hsm
  have hsm4 : upd H3 sm (.tup [.ref cr, .ref cw]) sm = some (.tup [.ref cr, .ref cw]) := upd_same
  generalize upd H3 sm (.tup [.ref cr, .ref cw]) = H4 at s4 hsm4 ⊢
  have s14 := s13.trans s4
  have dS : DV H4 (.ref sm) (sampD R W) := .tup hsm4 (.cons (hR.mono (same_tp s14)) (.cons (hW.mono (same_tp s14)) .nil))
  have hq4 := s14 _ _ hq
  have hq24 := s4 _ _ hq2
  have hvs4 := hvs.mono (same_tp s4)
  have x4 := hx.mono (same_tp s14)
  -- the call of bars
  have bars : ∀ {H5 : Hp} {v : V} {t : Tr} {m : Nat} {Q' : VK}, Same H4 H5 → DV H5 v t.da → (∀ H6, Same H H6 → Q' (.bl (acc R W m ws [] k0 t)) H6) → ∀ p dx, H5 p = none → H5 dx = none → dx ≠ p → ∀ QQ : VK, (∀ H6, Same H4 H6 → spBars CR (n + 1) [.ref p, .ref q2, .ref sm, .int ((m : Nat) : Int), v, .int 2] H6 Q' E0 → QQ .non H6) →
      spInit CR [.ref p] (upd (upd H5 dx (.own p)) p (.ins CR dx [])) QQ E0 := by
    intro H5 v t m Q' s5 dt kq p dx hp hdx hne QQ hQ
    refine ⟨p, dx, rfl, upd_same, fun a' H6 ea SI6 K6 fr6 => ?_⟩
    have s6 : Same H5 H6 := fun b o e => K6 b o (ne_of_none e hp) (by rw [upd_ne (ne_of_none e hp), upd_ne (ne_of_none e hdx)]; exact e)
    have s46 := s5.trans s6
    subst ea
    refine hQ H6 s46 ⟨a', k0, [], ws, ws, R, W, q2, us', _, _, t, m, rfl, SI6 R W, rfl, hfl, pf, s46 _ _ hq24, hvs4.mono (same_tp s46), dS.mono (same_tp s46), dt.mono (same_tp s6), bR, bW, fun H7 o7 => kq H7 fun b o e => ?_⟩
    have e5 := (s14.trans s5) _ _ e
    refine o7 b o (fun hb => ?_) (s6 _ _ e5)
    rcases fr6 b hb with z | z
    · rw [z, hp] at e5; cases e5
    · by_cases c : b = a'.p
      · rw [c, hp] at e5; cases e5
      · rw [upd_ne c] at z
        by_cases d : b = dx
        · rw [d, hdx] at e5; cases e5
        · rw [upd_ne d, e5] at z; cases z
  cases an with
  | more t =>
    injection eda with eda
    subst eda
    cases x4 with
    | cons h1 h2 =>
      cases h2 with
      | cons h3 h4 =>
        cases h4
        cases h1
        refine ⟨_, rfl, q, _, rfl, .inr (SqT.of hq4), rfl, _, rfl, ifT (by simp) ?_⟩
        refine ⟨_, rfl, q, _, _, _, rfl, rfl, SqT.of hq4, rfl, rfl, _, rfl, ifT (by decide +kernel) ?_⟩
        refine fun p dx hp hdx hne => bars (Same.refl _) h3 k p dx hp hdx hne _ fun H6 s6 hb => ⟨rfl, _, rfl, _, rfl, _, rfl, _, rfl, q, _, _, _, rfl, rfl, SqT.of (s6 _ _ hq4), rfl, _, rfl, hb⟩
  | few l t =>
    injection eda with eda
    subst eda
    cases x4 with
    | cons h1 h2 =>
      cases h2 with
      | cons h3 h4 =>
        cases h4 with
        | cons h5 h6 =>
          cases h6
          cases h1
          refine ⟨_, rfl, q, _, rfl, .inr (SqT.of hq4), rfl, _, rfl, ifF (by simp) ?_⟩
          refine ⟨_, rfl, q, _, rfl, SqT.of hq4, rfl, _, _, rfl, _, _, rfl, _, _, rfl, rfl, ?_⟩
          have dl := h3
          obtain ⟨ql, vl, rfl, hql, hvl⟩ := h3.inv
          have hll := hvl.length
          rw [List.length_map] at hll
          refine ⟨_, rfl, rfl, _, rfl, ifF (by decide +kernel) ?_⟩
          refine ⟨_, rfl, _, rfl, _, l, rfl, dl, fun H5 s5 => ⟨_, rfl, ?_⟩⟩
          have s15 := s14.trans s5
          cases fb : fullB l with
          | false =>
            refine ifT rfl ?_
            have := k H5 s15
            rw [judgeB, fb, Bool.false_and] at this
            exact this
          | true =>
          refine ifF (by decide) ?_
          have lne : l ≠ [] := by
            intro e
            rw [e] at fb
            cases fb
          have okl : okRw l := by
            intro r hr2
            unfold fullB at fb
            rw [Bool.and_eq_true] at fb
            have := List.all_eq_true.mp fb.2 r hr2
            unfold rowB at this
            rw [Bool.and_eq_true, Bool.and_eq_true] at this
            exact ⟨of_decide_eq_true this.1.2, of_decide_eq_true this.2⟩
          have lpos : 0 < l.length := List.length_pos_iff.mpr lne
          refine ⟨_, rfl, ql, _, rfl, .inr (SqT.of (s5 _ _ hql)), _, rfl, _, _, rfl, rfl, _, rfl, ite2 (fun d => ?_) (fun d => ?_)⟩
          · have d' : ¬ l.length ≤ most := by simp at d; omega
            have := k H5 s15
            rw [judgeB, fb, Bool.true_and, decide_eq_false d', Bool.false_and] at this
            exact this
          have d' : l.length ≤ most := by simp at d; omega
          refine ⟨_, rfl, _, rfl, _, rfl, _, _, _, l, R, W, rfl, dl.mono (same_tp s5), hR.mono (same_tp s15), hW.mono (same_tp s15), bR, bW, okl, lne, _, rfl, ?_⟩
          cases ff : fitsB l R W with
          | false =>
            refine ifT rfl ?_
            have := k H5 s15
            rw [judgeB, fb, Bool.true_and, decide_eq_true d', Bool.true_and, ff, Bool.false_and] at this
            exact this
          | true =>
          refine ifF (by decide) ?_
          have jb : judgeB ws R W most (.few l t) = if l.length = 1 then isNon t else acc R W (l.length - 1) ws [] k0 t := by
            rw [judgeB, fb, Bool.true_and, decide_eq_true d', Bool.true_and, ff, Bool.true_and]
          rw [jb] at k
          refine ⟨_, rfl, ql, _, rfl, .inr (SqT.of (s5 _ _ hql)), rfl, _, rfl, ?_⟩
          by_cases l1 : l.length = 1
          · refine ifT (by rw [hll, l1]; rfl) ?_
            refine ⟨_, rfl, rfl, ?_⟩
            have := k H5 s15
            rw [if_pos l1] at this
            rw [da_non h5]
            exact this
          · refine ifF (by rw [hll]; simp; omega) ?_
            rw [if_neg l1] at k
            refine fun p dx hp hdx hne => bars s5 (h5.mono (same_tp s5)) k p dx hp hdx hne _ fun H6 s6 hb => ⟨rfl, _, rfl, _, rfl, _, rfl, _, _, rfl, .inr (SqT.of (s6 _ _ hql)), _, _, rfl, rfl, _, rfl, _, rfl, ?_⟩
            rw [show ((l.length - 1 : Nat) : Int) = ((vl.length : Nat) : Int) - 1 by omega] at hb
            exact hb
end
end Toy

set_option Elab.async false
set_option linter.all false
set_option maxRecDepth 100000
set_option maxHeartbeats 4000000
namespace Toy
open PySem L2
theorem take_more {α : Type} {l : List α} {i : Nat} {x : α} (h : l[i]? = some x) : l.take (i + 1) = l.take i ++ [x] := by
  rw [List.take_add_one, h]; rfl
/-! ### the law's draws: a list of [the script's numbers, a place, a rest, a state] -/
def Dr (H : Hp) (d l : Addr) (ns : List Int) : Prop := ∃ i f g : Int, 0 ≤ i ∧ H d = some (.lst [.ref l, .int i, .int f, .int g]) ∧ H l = some (.lst (ns.map V.int))
theorem Dr.ne {H : Hp} {d l : Addr} {ns : List Int} (h : Dr H d l ns) : l ≠ d := by
  obtain ⟨i, f, g, _, h1, h2⟩ := h
  refine ne_of h2 h1 (fun e => ?_)
  have e' : ns.map V.int = [.ref l, .int i, .int f, .int g] := HO.lst.inj e
  cases ns with
  | nil => cases e'
  | cons a r => cases e'
theorem Dr.same {H H' : Hp} {d l : Addr} {ns : List Int} (h : Dr H d l ns) (s : Same H H') : Dr H' d l ns := by
  obtain ⟨i, f, g, h0, h1, h2⟩ := h
  exact ⟨i, f, g, h0, s _ _ h1, s _ _ h2⟩
theorem Keep.tups {H H' : Hp} {d : Addr} {xs : List V} (hd : H d = some (.lst xs)) (s : Keep d H H') : ∀ b ys, H b = some (.tup ys) → H' b = some (.tup ys) := fun b ys e =>
  s b _ (ne_of e hd (fun z => nomatch z)) e
theorem Dr.tups {H H' : Hp} {d l : Addr} {ns : List Int} (h : Dr H d l ns) (s : Keep d H H') : ∀ b ys, H b = some (.tup ys) → H' b = some (.tup ys) := by
  obtain ⟨i, f, g, _, h1, _⟩ := h
  exact Keep.tups h1 s
def spBegin (K : PySem.W.Frag) : Sp := fun vs H Q _ => ∃ (a : Addr) (ns : List Int), vs = [.ref a] ∧ SqL K H a (ns.map V.int) ∧ ns.length ≤ 63 ∧ ∀ d l ms H', Same H H' → Dr H' d l ms → Q (.ref d) H'
def spDraw : Sp := fun vs H Q _ => ∃ (d l : Addr) (ns : List Int) (m : Int), vs = [.ref d, .int m] ∧ Dr H d l ns ∧ 0 < m ∧ m < 1073741824 ∧ ∀ r H', 0 ≤ r → r < m → Keep d H H' → Dr H' d l ns → Q (.int r) H'
def spPick : Sp := fun vs H Q _ => ∃ (d l r : Addr) (ns : List Int) (xs : List V), vs = [.ref d, .ref r] ∧ Dr H d l ns ∧ r ≠ d ∧ H r = some (.lst xs) ∧ xs ≠ [] ∧ xs.length ≤ 1000 ∧ ∀ x H', x ∈ xs → Keep d H H' → Dr H' d l ns → Q x H'
section
variable {P : Program} {w : World} {K : PySem.W.Frag} {mg : Str → Option Value} {base : Heap} {CR : Addr}
theorem fmod_lo {a m : Int} (h : 0 < m) : 0 ≤ a.fmod m := by rw [Int.fmod_eq_emod_of_nonneg _ (Int.le_of_lt h)]; exact Int.emod_nonneg _ (by omega)
theorem fmod_hi {a m : Int} (h : 0 < m) : a.fmod m < m := by rw [Int.fmod_eq_emod_of_nonneg _ (Int.le_of_lt h)]; exact Int.emod_lt_of_pos _ h
abbrev s_l_begin : Stmt := top 18
theorem sc_l_begin : FnScope ["script", "cell"] ["script"] (defScope s_l_begin) := ⟨rfl, rfl, rfl, by decide +kernel, rfl, by decide +kernel, by decide +kernel⟩

theorem ok_begin {f : Addr} {fd : FuncData} (F : Fun K "_law_begin" "_law_begin" s_l_begin f fd) (T : Txt K mg CR) : FnOk P w K mg base CX0 1 f fd ["script"] (spBegin K) := by
  refine F.ok sc_l_begin (fun vs H Q E h => ?_) (fun cdv A outer s H vs Q E hr h => ?_)
  · obtain ⟨a, ns, rfl, _⟩ := h
    rfl
  obtain ⟨a, ns, rfl, hS, hl, k⟩ := h
  refine ⟨_, (pss_one (ps_ret (pe_lst (pa_cons (pe_lc (own := [("cell", 1)]) (g := gName 1) (by rfl) sc_l_begin.nd (pi_list (pe_slice sl_list (pv 0) po_none (po_some pe_int))) (blkOk_by (own := [("cell", 1)]) (N := ["script", "cell"]) (sc := defScope s_l_begin) (by decide +kernel)) (fun _ _ _ _ _ => pg_name (i := 1) sc_l_begin.nd rfl (Or.inl rfl)) (fun _ _ _ _ _ => pts_nil) (fun _ _ _ _ _ => (pe_callTy call_int1 (by rfl) T.z_int b_int (pa_cons (pv 1) pa_nil)))) (pa_cons pe_int (pa_cons pe_int (pa_cons pe_int pa_nil))))))), ?_⟩
  refine ⟨_, rfl, _, rfl, a, _, rfl, hS, fun c hc => ?_⟩
  obtain ⟨ms, hms, hml⟩ : ∃ ms : List Int, cutV (ns.map V.int) none (some 63) = ms.map V.int ∧ ms.length ≤ 63 := by
    unfold cutV
    rw [← List.map_drop, ← List.map_take]
    refine ⟨_, rfl, ?_⟩
    rw [List.length_take, List.length_drop]
    omega
  refine ⟨c, rfl, ⟨_, SqL.of upd_same⟩, fun D hD => ?_⟩
  have hDc : D ≠ c := fun z => by rw [z, upd_same] at hD; cases hD
  have hD0 : H D = none := by rw [upd_ne hDc] at hD; exact hD
  refine lc_list (K := K) (a := c) (xs := cutV (ns.map V.int) none (some 63)) (fun j H' => Same H H' ∧ H' c = some (.lst (cutV (ns.map V.int) none (some 63))) ∧ H' D = some (.lst ((ms.take j).map V.int)))
    ⟨(Same.upd hc).trans (Same.upd hD), by rw [upd_ne (Ne.symm hDc)]; exact upd_same, upd_same⟩ (fun _ H' _ h => SqL.of h.2.1) (fun j x H' hx h => ?_) (fun H' h => ?_)
  · obtain ⟨hs, hc', hd'⟩ := h
    rw [hms, List.getElem?_map] at hx
    obtain ⟨m, hm, rfl⟩ := Option.map_eq_some_iff.mp hx
    refine ⟨rfl, ?_⟩
    simp only [tYes, if_true]
    refine ⟨_, rfl, .inl ⟨_, rfl, ?_⟩⟩
    refine ⟨_, hd', ?_, ?_, ?_, ?_⟩
    · rw [List.length_map, List.length_take]
      exact small1000 (by omega)
    · intro b o e
      rw [upd_ne (ne_of_none e hD0)]
      exact hs _ _ e
    · rw [upd_ne (Ne.symm hDc)]; exact hc'
    · rw [upd_same, take_more hm, List.map_append]; rfl
  · obtain ⟨hs, hc', hd'⟩ := h
    refine ⟨by show 4 ≤ sizeLine; decide, fun p hp => ?_⟩
    have hDp : D ≠ p := ne_of_none hd' hp
    rw [hms, List.length_map, List.take_length] at hd'
    exact k p D ms _ (hs.trans (Same.upd hp)) ⟨0, 0, 7, Int.le_refl 0, upd_same, by rw [upd_ne hDp]; exact hd'⟩
abbrev s_l_draw : Stmt := top 19
theorem sc_l_draw : FnScope ["d", "many", "found", "size", "cell"] ["d", "many"] (defScope s_l_draw) := ⟨rfl, rfl, rfl, by decide +kernel, rfl, by decide +kernel, by decide +kernel⟩

theorem ok_draw {f : Addr} {fd : FuncData} (F : Fun K "_law_draw" "_law_draw" s_l_draw f fd) (T : Txt K mg CR) : FnOk P w K mg base CX0 1 f fd ["d", "many"] spDraw := by
  refine F.ok sc_l_draw (fun vs H Q E h => ?_) (fun cdv A outer s H vs Q E hr h => ?_)
  · obtain ⟨d, l, ns, m, rfl, _⟩ := h
    rfl
  obtain ⟨d, l, ns, m, rfl, hDr, m0, m1, k⟩ := h
  have hne := hDr.ne
  obtain ⟨i, f, g, i0, hd, hl⟩ := hDr
  have hdm : CDivN f m := ⟨by omega, by omega⟩
  refine ⟨_, (pss_cons (ps_if (pt_cmpR op_gt (pe_ix ix_list (pv 0) pe_int (fun _ _ => rfl)) pe_int (nomark _)) (pss_cons (ps_set (i := 2) sc_l_draw.nd rfl (Or.inl rfl) (pe_ix ix_list (pv 0) pe_int (fun _ _ => rfl)))
    (pss_cons (ps_asg (pe_op op_fdivN (pv 2) (pv 1)) (pg_sub (pv 0) pe_int set_list))
    (pss_one (ps_ret (pe_op op_modN (pe_callTy call_int1 (by rfl) T.z_int b_int (pa_cons (pv 2) pa_nil)) (pv 1)))))) pss_nil)
    (pss_cons (ps_set (i := 3) sc_l_draw.nd rfl (Or.inl rfl) pe_int)
    (C8.pss_cut (ps_if (pt_cmpR op_lt (pe_ix ix_list (pv 0) pe_int (fun _ _ => rfl)) (pe_callB call_len_seq (by rfl) T.z_len b_len (pa_cons (pe_ix ix_list (pv 0) pe_int (fun _ _ => rfl)) pa_nil)) (nomark _)) (pss_cons (ps_set (i := 4) sc_l_draw.nd rfl (Or.inl rfl) (pe_ix ix_list (pe_ix ix_list (pv 0) pe_int (fun _ _ => rfl)) (pe_ix ix_list (pv 0) pe_int (fun _ _ => rfl)) (fun _ _ => rfl)))
    (pss_one (ps_set (i := 3) sc_l_draw.nd rfl (Or.inl rfl) (pe_op op_add (pe_op op_mul pe_int (pe_callB call_abs (by rfl) T.z_abs b_abs (pa_cons (pv 4) pa_nil))) (pe_callTy call_int1 (by rfl) T.z_int b_int (pa_cons (pe_cmpR op_lt (pv 4) pe_int (nomark _)) pa_nil)))))) pss_nil)
    (pss_cons (ps_augS (pv 0) pe_int get_list pe_int ip_add set_list)
    (pss_cons (ps_if (pt_cmpR op_ge (pv 3) (pe_op op_mul pe_int (pe_op op_pow pe_int pe_int)) (nomark _)) (pss_cons (ps_set (i := 2) sc_l_draw.nd rfl (Or.inl rfl) (pe_op op_modN (pe_callTy call_int1 (by rfl) T.z_int b_int (pa_cons (pe_op op_fdivN (pv 3) pe_int) pa_nil)) (pe_op op_shl pe_int pe_int)))
    (pss_cons (ps_asg (pe_op op_fdivN (pv 2) (pv 1)) (pg_sub (pv 0) pe_int set_list))
    (pss_one (ps_ret (pe_op op_modN (pe_callTy call_int1 (by rfl) T.z_int b_int (pa_cons (pv 2) pa_nil)) (pv 1)))))) pss_nil)
    (pss_cons (ps_asg (pe_op op_modN (pe_callTy call_int1 (by rfl) T.z_int b_int (pa_cons (pe_op op_add (pe_op op_add (pe_op op_add (pe_op op_mul (pe_ix ix_list (pv 0) pe_int (fun _ _ => rfl)) pe_int) (pe_op op_mul (pe_op op_modN (pe_callTy call_int1 (by rfl) T.z_int b_int (pa_cons (pv 3) pa_nil)) pe_int) pe_int)) (pe_op op_mul (pe_ix ix_list (pv 0) pe_int (fun _ _ => rfl)) pe_int)) pe_int) pa_nil)) pe_int) (pg_sub (pv 0) pe_int set_list))
    (pss_one (ps_ret (pe_op op_modN (pe_callTy call_int1 (by rfl) T.z_int b_int (pa_cons (pe_op op_fdivN (pe_ix ix_list (pv 0) pe_int (fun _ _ => rfl)) pe_int) pa_nil)) (pv 1)))))))))), ?_⟩
  refine ⟨_, rfl, d, _, 2, _, rfl, rfl, SqL.of hd, rfl, _, _, rfl, rfl, _, rfl, ite2 (fun _ => ?_) (fun _ => ?_)⟩
  · refine ⟨_, rfl, d, _, 2, _, rfl, rfl, SqL.of hd, rfl, ?_⟩
    refine ⟨_, rfl, _, rfl, _, _, rfl, rfl, ⟨by omega, by omega⟩, _, rfl, d, _, 2, 2, rfl, rfl, hd, rfl, ?_⟩
    refine ⟨_, rfl, .inl ⟨_, rfl, _, rfl, _, _, rfl, rfl, by omega, ?_⟩⟩
    exact k _ _ (fmod_lo m0) (fmod_hi m0) Keep.upd ⟨i, _, g, i0, upd_same, by rw [upd_ne hne]; exact hl⟩
  · refine ⟨fun σ' H' => (∃ sz c, σ' = [some (.ref d), some (.int m), none, some (.int sz), c]) ∧ H' = H, ?_, ?_⟩
    · refine ⟨_, rfl, d, _, 1, _, rfl, rfl, SqL.of hd, rfl, _, rfl, d, _, 0, _, rfl, rfl, SqL.of hd, rfl, l, _, rfl, .inl (SqL.of hl), _, _, rfl, rfl, _, rfl, ite2 (fun c => ?_) (fun _ => ⟨⟨_, _, rfl⟩, rfl⟩)⟩
      have c' : i < (((ns.map V.int).length : Nat) : Int) := of_decide_eq_true c
      rw [List.length_map] at c'
      obtain ⟨v, hv⟩ : ∃ v : Int, atI (ns.map V.int) i = some (.int v) := by
        have hi : i.toNat < ns.length := by omega
        refine ⟨ns[i.toNat], ?_⟩
        have q : atI (ns.map V.int) ((i.toNat : Nat) : Int) = some (.int ns[i.toNat]) := atI_nat (by rw [List.getElem?_map, List.getElem?_eq_getElem hi]; rfl)
        rw [show ((i.toNat : Nat) : Int) = i by omega] at q
        exact q
      refine ⟨_, rfl, d, _, 0, _, rfl, rfl, SqL.of hd, rfl, _, rfl, d, _, 1, _, rfl, rfl, SqL.of hd, rfl, l, _, i, _, rfl, rfl, SqL.of hl, hv, ?_⟩
      refine ⟨_, rfl, _, rfl, _, _, rfl, rfl, .inl (by decide), _, rfl, _, _, rfl, rfl, ?_⟩
      refine .inr ⟨_, rfl, _, _, rfl, rfl, ⟨_, _, rfl⟩, rfl⟩
    · rintro σ' H' ⟨⟨sz, c, rfl⟩, rfl⟩
      have hd1 := hd
      refine ⟨_, rfl, d, _, 1, _, rfl, rfl, SqL.of hd, by decide, rfl, _, _, rfl, rfl, d, _, 1, 1, rfl, rfl, hd, rfl, ?_⟩
      have hd2 : upd H' d (HO.lst [.ref l, .int (i + 1), .int f, .int g]) d = some (.lst [.ref l, .int (i + 1), .int f, .int g]) := upd_same
      have hl2 : upd H' d (HO.lst [.ref l, .int (i + 1), .int f, .int g]) l = some (.lst (ns.map V.int)) := by rw [upd_ne hne]; exact hl
      have k2 : Keep d H' (upd H' d (HO.lst [.ref l, .int (i + 1), .int f, .int g])) := Keep.upd
      refine ⟨_, rfl, _, _, rfl, rfl, ⟨by decide, by decide, by decide⟩, _, _, rfl, rfl, .inl (by decide), _, _, rfl, rfl, _, rfl, ite2 (fun _ => ?_) (fun _ => ?_)⟩
      · refine ⟨_, rfl, _, _, rfl, rfl, ⟨by decide, by decide⟩, .inl ⟨_, rfl, _, _, rfl, rfl, ⟨by decide, by decide, by decide⟩, _, _, rfl, rfl, ?_, ?_⟩⟩
        · show (1 : Int) * 2 ^ (6000 : Int).toNat ≠ 0
          rw [Int.one_mul]
          exact Int.ne_of_gt (Int.pow_pos (by decide))
        refine ⟨_, rfl, _, rfl, _, _, rfl, rfl, ⟨by omega, by omega⟩, _, rfl, d, _, 2, 2, rfl, rfl, hd2, rfl, ?_⟩
        refine ⟨_, rfl, .inl ⟨_, rfl, _, rfl, _, _, rfl, rfl, by omega, ?_⟩⟩
        exact k _ _ (fmod_lo m0) (fmod_hi m0) (k2.trans Keep.upd) ⟨i + 1, _, g, by omega, upd_same, by rw [upd_ne hne]; exact hl2⟩
      · refine ⟨_, rfl, d, _, 3, _, rfl, rfl, SqL.of hd2, rfl, _, _, rfl, rfl, .inr (by decide), _, rfl, .inl ⟨_, rfl, _, _, rfl, rfl, (show (2147483629 : Int) ≠ 0 by decide), _, _, rfl, rfl, .inr (by decide), _, _, rfl, rfl, ?_⟩⟩
        refine ⟨_, rfl, d, _, 1, _, rfl, rfl, SqL.of hd2, rfl, _, _, rfl, rfl, .inr (by decide), _, _, rfl, rfl, _, _, rfl, rfl, ?_⟩
        refine .inl ⟨_, rfl, _, _, rfl, rfl, (show (2147483647 : Int) ≠ 0 by decide), _, rfl, d, _, 3, 3, rfl, rfl, hd2, rfl, ?_⟩
        have hd3 : ∀ x : V, upd (upd H' d (HO.lst [.ref l, .int (i + 1), .int f, .int g])) d (HO.lst [.ref l, .int (i + 1), .int f, x]) d = some (HO.lst [.ref l, .int (i + 1), .int f, x]) := fun x => upd_same
        refine ⟨_, rfl, d, _, 3, _, rfl, rfl, SqL.of (hd3 _), rfl, _, _, rfl, rfl, ⟨by decide, by decide⟩, .inl ⟨_, rfl, _, rfl, _, _, rfl, rfl, by omega, ?_⟩⟩
        exact k _ _ (fmod_lo m0) (fmod_hi m0) (k2.trans Keep.upd) ⟨i + 1, f, _, by omega, upd_same, by rw [upd_ne hne]; exact hl2⟩
abbrev s_l_pick : Stmt := top 20
theorem sc_l_pick : FnScope ["d", "row"] ["d", "row"] (defScope s_l_pick) := ⟨rfl, rfl, rfl, by decide +kernel, rfl, by decide +kernel, by decide +kernel⟩

theorem ok_pick {f : Addr} {fd : FuncData} (F : Fun K "_law_pick" "_law_pick" s_l_pick f fd) (T : Txt K mg CR) (C__law_draw : CalX P w K mg base CX0 1 "_law_draw" spDraw) : FnOk P w K mg base CX0 2 f fd ["d", "row"] spPick := by
  refine F.ok sc_l_pick (fun vs H Q E h => ?_) (fun cdv A outer s H vs Q E hr h => ?_)
  · obtain ⟨d, l, r, ns, xs, rfl, _⟩ := h
    rfl
  obtain ⟨d, l, r, ns, xs, rfl, hDr, hrd, hR, hne, hlen, k⟩ := h
  have hpos : 0 < xs.length := List.length_pos_iff.mpr hne
  refine ⟨_, (pss_one (ps_ret (pe_ix ix_list (pv 1) (pe_u C__law_draw hr (by omega) pass0 (pa_cons (pv 0) (pa_cons (pe_callB call_len_seq (by rfl) T.z_len b_len (pa_cons (pv 1) pa_nil)) pa_nil))) (fun _ _ => rfl)))), ?_⟩
  refine ⟨_, rfl, _, rfl, _, rfl, r, _, rfl, .inl (SqL.of hR), d, l, ns, _, rfl, hDr, by omega, by omega, fun j H' j0 j1 kp hDr' => ?_⟩
  have hj : j.toNat < xs.length := by omega
  have hR' := kp _ _ hrd hR
  have q : atI xs ((j.toNat : Nat) : Int) = some xs[j.toNat] := atI_nat (List.getElem?_eq_getElem hj)
  rw [show ((j.toNat : Nat) : Int) = j by omega] at q
  exact ⟨r, xs, j, _, rfl, rfl, SqL.of hR', q, k _ _ (List.getElem_mem hj) kp hDr'⟩
def spPower : Sp := fun vs H Q _ => ∃ b n : Nat, vs = [.int ((b : Nat) : Int), .int ((n : Nat) : Int)] ∧ b ≤ 4 ∧ n ≤ 12 ∧ Q (.int ((b ^ n : Nat) : Int)) H
abbrev s_l_power : Stmt := top 21
theorem sc_l_power : FnScope ["base", "width", "found", "k"] ["base", "width"] (defScope s_l_power) := ⟨rfl, rfl, rfl, by decide +kernel, rfl, by decide +kernel, by decide +kernel⟩

theorem ok_power {f : Addr} {fd : FuncData} (F : Fun K "_law_power" "_law_power" s_l_power f fd) (T : Txt K mg CR) : FnOk P w K mg base CX0 1 f fd ["base", "width"] spPower := by
  refine F.ok sc_l_power (fun vs H Q E h => ?_) (fun cdv A outer s H vs Q E hr h => ?_)
  · obtain ⟨b, n, rfl, _⟩ := h
    rfl
  obtain ⟨b, n, rfl, hb, hn, k⟩ := h
  refine ⟨_, (pss_cons (ps_set (i := 2) sc_l_power.nd rfl (Or.inl rfl) pe_int)
    (pss_cons (ps_for PassesOwn.never rfl (pi_range1 (by rfl) T.z_range (pa_cons (pv 1) pa_nil)) (pg_name (i := 3) sc_l_power.nd rfl (Or.inl rfl)) (pss_one (ps_set (i := 2) sc_l_power.nd rfl (Or.inl rfl) (pe_op op_mul (pv 2) (pv 0)))))
    (pss_one (ps_ret (pv 2))))), ?_⟩
  refine ⟨_, rfl, _, rfl, by omega, by omega, ?_⟩
  refine for_range (lo := 0) (n := ((n : Nat) : Int).toNat) (fun j σ H' => H' = H ∧ ∃ g, σ = [some (.int ((b : Nat) : Int)), some (.int ((n : Nat) : Int)), some (.int ((b ^ j : Nat) : Int)), g]) ⟨rfl, _, rfl⟩ (fun j σ H' hj h => ?_) (fun σ H' h => ?_)
  · obtain ⟨rfl, g, rfl⟩ := h
    refine ⟨_, rfl, _, rfl, _, _, rfl, rfl, ?_, ?_⟩
    · exact .inr ⟨by omega, by omega⟩
    refine ⟨rfl, some (.int (0 + (j : Int))), ?_⟩
    rw [Nat.pow_succ]
    rfl
  · obtain ⟨rfl, g, rfl⟩ := h
    refine ⟨_, rfl, ?_⟩
    rw [Int.toNat_natCast]
    exact k
def digN (b : Nat) : Nat → Nat → List Nat
  | _, 0 => []
  | m, n + 1 => m % b :: digN b (m / b) n
def spDigits : Sp := fun vs H Q _ => ∃ m n b : Nat, vs = [.int ((m : Nat) : Int), .int ((n : Nat) : Int), .int ((b : Nat) : Int)] ∧ n ≤ 1000 ∧ 0 < b ∧ b < 1000 ∧ ∀ p H', Same H H' → H' p = some (.lst ((digN b m n).reverse.map fun c : Nat => V.int (c : Int))) → Q (.ref p) H'
theorem digN_snoc (b : Nat) : ∀ (n m : Nat), digN b m (n + 1) = digN b m n ++ [m / b ^ n % b]
  | 0, m => by simp [digN]
  | n + 1, m => by
    rw [digN, digN_snoc b n (m / b)]
    simp only [digN, List.cons_append, Nat.div_div_eq_div_mul]
    rw [Nat.pow_succ, Nat.mul_comm]
theorem digN_len (b : Nat) : ∀ (n m : Nat), (digN b m n).length = n
  | 0, m => rfl
  | n + 1, m => by rw [digN, List.length_cons, digN_len b n]
abbrev s_l_digits : Stmt := top 22
theorem sc_l_digits : FnScope ["number", "width", "base", "found", "k"] ["number", "width", "base"] (defScope s_l_digits) := ⟨rfl, rfl, rfl, by decide +kernel, rfl, by decide +kernel, by decide +kernel⟩

theorem ok_digits {f : Addr} {fd : FuncData} (F : Fun K "_law_digits" "_law_digits" s_l_digits f fd) (T : Txt K mg CR) : FnOk P w K mg base CX0 1 f fd ["number", "width", "base"] spDigits := by
  refine F.ok sc_l_digits (fun vs H Q E h => ?_) (fun cdv A outer s H vs Q E hr h => ?_)
  · obtain ⟨m, n, b, rfl, _⟩ := h
    rfl
  obtain ⟨m, n, b, rfl, hn, hb, hb2, k⟩ := h
  refine ⟨_, (pss_cons (ps_set (i := 3) sc_l_digits.nd rfl (Or.inl rfl) (pe_lst pa_nil))
    (pss_cons (ps_for PassesOwn.never rfl (pi_range1 (by rfl) T.z_range (pa_cons (pv 1) pa_nil)) (pg_name (i := 4) sc_l_digits.nd rfl (Or.inl rfl)) (pss_cons (ps_expr (pe_bm PySem.F.plainAttrs_list PySem.F.slot_list_append PySem.F.type_list_append mt_append (pv 3) (pa_cons (pe_op op_modN (pe_callTy call_int1 (by rfl) T.z_int b_int (pa_cons (pv 0) pa_nil)) (pv 2)) pa_nil)))
    (pss_one (ps_set (i := 0) sc_l_digits.nd rfl (Or.inl rfl) (pe_op op_fdivN (pv 0) (pv 2))))))
    (pss_cons (ps_expr (pe_bm0 PySem.F.plainAttrs_list PySem.F.slot_list_reverse PySem.F.type_list_reverse mt_reverse (pv 3)))
    (pss_one (ps_ret (pv 3)))))), ?_⟩
  refine ⟨by show 0 ≤ sizeLine; decide, fun p hp => ?_⟩
  refine ⟨_, rfl, _, rfl, by omega, by omega, ?_⟩
  refine for_range (lo := 0) (n := ((n : Nat) : Int).toNat) (fun j σ H' => Same H H' ∧ H' p = some (.lst ((digN b m j).map fun c : Nat => V.int (c : Int))) ∧ ∃ g, σ = [some (.int ((m / b ^ j : Nat) : Int)), some (.int ((n : Nat) : Int)), some (.int ((b : Nat) : Int)), some (.ref p), g]) ⟨Same.upd hp, upd_same, _, by simp; rfl⟩ (fun j σ H' hj h => ?_) (fun σ H' h => ?_)
  · obtain ⟨s1, h1, g, rfl⟩ := h
    rw [Int.toNat_natCast] at hj
    have eM : (((m / b ^ j : Nat) : Int)).fmod ((b : Nat) : Int) = ((m / b ^ j % b : Nat) : Int) := by rw [Int.fmod_eq_emod_of_nonneg _ (by omega)]; rfl
    have eD : (((m / b ^ j : Nat) : Int)).fdiv ((b : Nat) : Int) = ((m / b ^ (j + 1) : Nat) : Int) := by rw [Int.fdiv_eq_ediv_of_nonneg _ (by omega), Nat.pow_succ, ← Nat.div_div_eq_div_mul]; rfl
    refine ⟨_, rfl, .inl ⟨rfl, _, SqL.of h1⟩, ?_⟩
    refine ⟨_, rfl, .inl ⟨_, rfl, _, rfl, _, _, rfl, rfl, by omega, ?_⟩⟩
    have dl := digN_len b j m
    refine ⟨p, _, _, rfl, rfl, h1, ?_, _, rfl, _, rfl, _, _, rfl, rfl, ⟨by omega, by omega⟩, fun b' o e => ?_, ?_, ?_⟩
    · rw [List.length_map, dl]; exact small1000 (by omega)
    · rw [upd_ne (ne_of_none e hp)]; exact s1 b' o e
    · rw [upd_same, digN_snoc, List.map_append]
      show some (HO.lst (_ ++ [V.int (Int.fmod _ _)])) = _
      rw [eM]; rfl
    · refine ⟨some (.int (0 + (j : Int))), ?_⟩
      show [some (V.int (((m / b ^ j : Nat) : Int).fdiv ((b : Nat) : Int))), _, _, _, _] = _
      rw [eD]
  · obtain ⟨s1, h1, g, rfl⟩ := h
    rw [Int.toNat_natCast] at h1
    refine ⟨_, rfl, .inl ⟨rfl, _, SqL.of h1⟩, p, _, rfl, rfl, h1, _, rfl, k p _ (fun b' o e => ?_) ?_⟩
    · rw [upd_ne (ne_of_none e hp)]; exact s1 b' o e
    · rw [upd_same, List.map_reverse]
end
end Toy

set_option Elab.async false
set_option linter.all false
set_option maxRecDepth 100000
set_option maxHeartbeats 4000000
namespace Toy
open PySem L2
def spLOrder : Sp := fun vs H Q _ => ∃ (p : Addr) (us : List V) (fs : List (List Nat)), vs = [.ref p] ∧ H p = some (.lst us) ∧ DVs H us (fs.map wd) ∧ fs.length ≤ 1000 ∧ fs.Nodup ∧
  ∀ (q : Addr) (H' : Hp) (us' : List V) (ws : List (List Nat)), Same H H' → H' q = some (.lst us') → DVs H' us' (ws.map wd) → SortedW ws → (∀ w, w ∈ ws ↔ w ∈ fs) → Q (.ref q) H'
def spLBeg : Sp := fun vs H Q _ => ∃ (p : Addr) (us : List V) (fs : List (List Nat)), vs = [.ref p] ∧ H p = some (.tup us) ∧ DVs H us (fs.map wd) ∧ (fs.map List.length).sum ≤ 900 ∧
  ∀ (q : Addr) (H' : Hp) (us' : List V) (ws : List (List Nat)), Same H H' → H' q = some (.lst us') → DVs H' us' (ws.map wd) → SortedW ws → (∀ w, w ∈ ws ↔ Beg fs w) → ws.length ≤ 1 + (fs.map List.length).sum → Q (.ref q) H'
theorem sorted_len {ws fs : List (List Nat)} (so : SortedW ws) (nd : fs.Nodup) (me : ∀ w, w ∈ ws ↔ w ∈ fs) : ws.length = fs.length := (List.perm_ext_iff_of_nodup so.nodup nd |>.mpr me).length_eq
section
variable {P : Program} {w : World} {K : PySem.W.Frag} {mg : Str → Option Value} {base : Heap} {CR : Addr}
abbrev s_l_in_order : Stmt := top 23
theorem sc_l_in_order : FnScope ["files", "rows", "row", "file"] ["files"] (defScope s_l_in_order) := ⟨rfl, rfl, rfl, by decide +kernel, rfl, by decide +kernel, by decide +kernel⟩

theorem ok_lorder {f : Addr} {fd : FuncData} (F : Fun K "_law_in_order" "_law_in_order" s_l_in_order f fd) (T : Txt K mg CR) : FnOk P w K mg base CX0 1 f fd ["files"] spLOrder := by
  refine F.ok sc_l_in_order (fun vs H Q E h => ?_) (fun cdv A outer s H vs Q E hr h => ?_)
  · obtain ⟨p, us, fs, rfl, _⟩ := h
    rfl
  obtain ⟨p, us, fs, rfl, hp, hd, hl, nd, k⟩ := h
  have hlen := hd.length
  rw [List.length_map] at hlen
  refine ⟨_, (pss_cons (ps_set (i := 1) sc_l_in_order.nd rfl (Or.inl rfl) (pe_callB (cr_sortLW (hu_c hr)) (by rfl) T.z_sorted b_sorted (pa_cons (pe_lc (own := [("file", 3)]) (g := gName 3) (by rfl) sc_l_in_order.nd (pi_list (pv 0)) (blkOk_by (own := [("file", 3)]) (N := ["files", "rows", "row", "file"]) (sc := defScope s_l_in_order) (by decide +kernel)) (fun _ _ _ _ _ => pg_name (i := 3) sc_l_in_order.nd rfl (Or.inl rfl)) (fun _ _ _ _ _ => pts_nil) (fun _ _ _ _ _ => (pe_tup (pa_cons (pe_callB (callK_len_seq K rfl) (by rfl) T.z_len b_len (pa_cons (pv 3) pa_nil)) (pa_cons (pv 3) pa_nil))))) pa_nil)))
    (pss_one (ps_ret (pe_lc (own := [("row", 2)]) (g := gName 2) (by rfl) sc_l_in_order.nd (pi_list (pv 1)) (blkOk_by (own := [("row", 2)]) (N := ["files", "rows", "row", "file"]) (sc := defScope s_l_in_order) (by decide +kernel)) (fun _ _ _ _ _ => pg_name (i := 2) sc_l_in_order.nd rfl (Or.inl rfl)) (fun _ _ _ _ _ => pts_nil) (fun _ _ _ _ _ => (pe_ix (ixK_tup K rfl) (pv 2) pe_int (fun _ _ => rfl))))))), ?_⟩
  refine ⟨_, rfl, p, rfl, ⟨_, SqL.of hp⟩, fun D hD => ?_⟩
  refine lc_list (K := K) (a := p) (xs := us) (fun i H2 => Same H H2 ∧ ∃ ts, H2 D = some (.lst ts) ∧ A2 (PairAt H2) ts (fs.take i)) ⟨Same.upd hD, [], upd_same, .nil⟩ (fun _ H2 _ h => SqL.of (h.1 _ _ hp)) (fun i x H2 hx h => ?_) (fun H2 h => ?_)
  · obtain ⟨s2, ts, hts, a2⟩ := h
    obtain ⟨q, hq, dv⟩ := hd.get hx
    rw [List.getElem?_map] at hq
    obtain ⟨f0, hf, rfl⟩ := Option.map_eq_some_iff.mp hq
    obtain ⟨a, rfl, ha⟩ := (dv.mono (same_tp s2)).word
    have hi : i < us.length := (List.getElem?_eq_some_iff.mp hx).1
    refine ⟨rfl, ?_⟩
    simp only [tYes, if_true]
    refine ⟨_, rfl, a, _, rfl, .inr (SqT.of ha), _, rfl, by show 2 ≤ sizeLine; decide, fun t ht => ⟨ts, ?_, ?_, ?_⟩⟩
    · rw [upd_ne (ne_of_none hts ht)]; exact hts
    · have := a2.length
      rw [List.length_take] at this
      exact small1000 (by omega)
    · have tp : Tups H2 (upd (upd H2 t (.tup [.int (((f0.map fun c : Nat => V.int (c : Int)).length : Nat) : Int), .ref a])) D (.lst (ts ++ [V.ref t]))) :=
        (tups_new ht).trans (tups_upd fun xs e => by rw [upd_ne (ne_of_none hts ht), hts] at e; cases e)
      refine ⟨fun b o e => ?_, _, upd_same, ?_⟩
      · rw [upd_ne (ne_of_none e hD), upd_ne (ne_of_none (s2 _ _ e) ht)]
        exact s2 _ _ e
      · rw [List.take_succ, hf]
        refine (a2.mono fun v w h => h.mono tp).append (.cons ⟨t, a, rfl, ?_, tp _ _ ha⟩ .nil)
        rw [upd_ne (fun z => by rw [z, hts] at ht; cases ht), upd_same, List.length_map]
  · obtain ⟨s3, ts, h3D, a3⟩ := h
    rw [hlen, List.take_length] at a3
    refine ⟨D, ts, kOf H2, rfl, SqL.of h3D, fun x hx => ?_, fun ys p1 o1 o2 hp1 => ?_⟩
    · obtain ⟨j, hj, rfl⟩ := List.getElem_of_mem hx
      obtain ⟨g0, hg0, pr⟩ := a3.get (List.getElem?_eq_getElem hj)
      have ek := kOf_pair pr
      obtain ⟨t, b, e1, e2, e3⟩ := pr
      refine ⟨t, b, e1, by rw [ek]; exact e2, ?_⟩
      rw [ek, e3]
      simp only [kw, List.map_map]
      rfl
    · obtain ⟨zs, a4, so, me⟩ := sorted_gives a3 nd o1 o2
      have tl : ys.length ≤ 1000 := by have := o2.len; have := a3.length; omega
      refine ⟨_, rfl, p1, rfl, ⟨_, SqL.of upd_same⟩, fun D2 hD2 => ?_⟩
      have D2p : D2 ≠ p1 := fun z => by rw [z, upd_same] at hD2; cases hD2
      have hD3 : H2 D2 = none := by rwa [upd_ne D2p] at hD2
      refine lc_list (K := K) (a := p1) (xs := ys) (fun i H5 => Same H2 H5 ∧ H5 p1 = some (.lst ys) ∧ ∃ rs, H5 D2 = some (.lst rs) ∧ A2 (fun v w => DV H5 v (wd w)) rs (zs.take i)) ⟨(Same.upd hp1).trans (Same.upd hD2), ?_, [], upd_same, .nil⟩ (fun _ H5 _ h => SqL.of h.2.1) (fun i x H5 hx h => ?_) (fun H5 h => ?_)
      · rw [upd_ne (Ne.symm D2p), upd_same]
      · obtain ⟨s5, h5, rs, hrs, a5⟩ := h
        obtain ⟨w0, hw0, pr⟩ := a4.get hx
        obtain ⟨t, b, rfl, e2, e3⟩ := pr
        refine ⟨rfl, ?_⟩
        simp only [tYes, if_true]
        refine ⟨_, rfl, t, _, 1, _, rfl, rfl, SqT.of (s5 _ _ e2), rfl, rs, hrs, ?_, ?_, ?_, _, upd_same, ?_⟩
        · have := a5.length
          have := (List.getElem?_eq_some_iff.mp hx).1
          rw [List.length_take] at *
          exact small1000 (by omega)
        · intro b o e
          rw [upd_ne (ne_of_none e hD3)]; exact s5 b o e
        · rw [upd_ne (Ne.symm D2p)]; exact h5
        · have tp : Tups H5 (upd H5 D2 (.lst (rs ++ [V.ref b]))) := tups_upd fun xs e => by rw [hrs] at e; cases e
          rw [List.take_succ, hw0]
          exact (a5.mono fun v w h => h.mono tp).append (.cons (.of_word (tp _ _ (s5 _ _ e3))) .nil)
      · obtain ⟨s5, h5, rs, hrs, a5⟩ := h
        have el := a4.length
        rw [el, List.take_length] at a5
        exact k D2 H5 rs zs (s3.trans s5) hrs (dvs_a2 a5) so me
abbrev s_l_beginnings : Stmt := top 26
theorem sc_l_beginnings : FnScope ["words", "found", "word", "k"] ["words"] (defScope s_l_beginnings) := ⟨rfl, rfl, rfl, by decide +kernel, rfl, by decide +kernel, by decide +kernel⟩

theorem ok_lbeg {f : Addr} {fd : FuncData} (F : Fun K "_law_beginnings" "_law_beginnings" s_l_beginnings f fd) (T : Txt K mg CR) (C__law_in_order : CalX P w K mg base CX0 1 "_law_in_order" spLOrder) : FnOk P w K mg base CX0 2 f fd ["words"] spLBeg := by
  refine F.ok sc_l_beginnings (fun vs H Q E h => ?_) (fun cdv A outer s H vs Q E hr h => ?_)
  · obtain ⟨p, us, fs, rfl, _⟩ := h
    rfl
  obtain ⟨p, us, fs, rfl, hp, hd, hl, k⟩ := h
  have hlen := hd.length
  rw [List.length_map] at hlen
  refine ⟨_, (pss_cons (ps_set (i := 1) sc_l_beginnings.nd rfl (Or.inl rfl) (pe_lst (pa_cons (pe_tup pa_nil) pa_nil)))
    (pss_cons (ps_for PassesOwn.never rfl (pi_tup (pv 0)) (pg_name (i := 2) sc_l_beginnings.nd rfl (Or.inl rfl)) (pss_one (ps_for PassesOwn.never rfl (pi_range1 (by rfl) T.z_range (pa_cons (pe_callB call_len_seq (by rfl) T.z_len b_len (pa_cons (pv 2) pa_nil)) pa_nil)) (pg_name (i := 3) sc_l_beginnings.nd rfl (Or.inl rfl)) (pss_one (ps_if (pt_cmpR (op_niA (hu_a hr)) (pe_slice sl_tupB (pv 2) po_none (po_some (pe_op op_add (pv 3) pe_int))) (pv 1) rfl) (pss_one (ps_expr (pe_bm PySem.F.plainAttrs_list PySem.F.slot_list_append PySem.F.type_list_append mt_append (pv 1) (pa_cons (pe_slice sl_tupB (pv 2) po_none (po_some (pe_op op_add (pv 3) pe_int))) pa_nil)))) pss_nil)))))
    (pss_one (ps_ret (pe_u C__law_in_order hr (by omega) pass0 (pa_cons (pv 1) pa_nil)))))), ?_⟩
  refine ⟨by show 0 ≤ sizeLine; decide, fun e he => ⟨by show 1 ≤ sizeLine; decide, fun d hdn => ?_⟩⟩
  have se : Same H (upd (upd H e (.tup [])) d (.lst [V.ref e])) := (Same.upd he).trans (Same.upd hdn)
  have Hd : H d = none := by
    rw [upd_ne (fun z => by rw [z, upd_same] at hdn; cases hdn)] at hdn
    exact hdn
  have ed : e ≠ d := fun z => by rw [← z, upd_same] at hdn; cases hdn
  refine ⟨_, rfl, p, rfl, ⟨_, SqT.of (se _ _ hp)⟩, for_tup (K := K) (a := p) (xs := us) (fun i σ H' => Same H H' ∧ (∃ g2 g3, σ = [some (.ref p), some (.ref d), g2, g3]) ∧ ∃ gs ts, H' d = some (.lst ts) ∧ A2 (fun v w => DV H' v (wd w)) ts gs ∧ gs.Nodup ∧ gs.length ≤ 1 + ((fs.take i).map List.length).sum ∧ ∀ w, w ∈ gs ↔ Beg (fs.take i) w)
    ⟨se, ⟨_, _, rfl⟩, [[]], _, upd_same, .cons (.of_word (by rw [upd_ne ed, upd_same]; rfl)) .nil, by simp, by simp, fun w => by simp [Beg]⟩ (fun i σ H' _ h => SqT.of (h.1 _ _ hp)) (fun i x σ H' hx h => ?_) (fun σ H' h => ?_)⟩
  · obtain ⟨s1, ⟨g2, g3, rfl⟩, gs, ts, hts, a1, nd, gl, mem⟩ := h
    obtain ⟨q, hq, dv⟩ := hd.get hx
    rw [List.getElem?_map] at hq
    obtain ⟨f0, hf, rfl⟩ := Option.map_eq_some_iff.mp hq
    obtain ⟨a, rfl, ha⟩ := dv.word
    have tk : fs.take (i + 1) = fs.take i ++ [f0] := by rw [List.take_succ, hf]; rfl
    have e1 : ((fs.take (i + 1)).map List.length).sum = ((fs.take i).map List.length).sum + f0.length := by
      rw [tk, List.map_append, List.sum_append]; simp
    have small : ((fs.take (i + 1)).map List.length).sum ≤ 900 := by
      have e1 : (fs.map List.length).sum = ((fs.take (i + 1)).map List.length).sum + ((fs.drop (i + 1)).map List.length).sum := by
        rw [← List.sum_append, ← List.map_append, List.take_append_drop]
      omega
    refine ⟨_, rfl, a, _, rfl, .inr (SqT.of (s1 _ _ ha)), _, rfl, ?_⟩
    have eN : ((((f0.map fun c : Nat => V.int (c : Int)).length : Nat) : Int)).toNat = f0.length := by simp
    refine ⟨by rw [List.length_map]; omega, by rw [List.length_map]; omega, ?_⟩
    refine for_range (lo := 0) (n := (((f0.map fun c : Nat => V.int (c : Int)).length : Nat) : Int).toNat) (fun j σ H2 => Same H H2 ∧ (∃ g3, σ = [some (.ref p), some (.ref d), some (.ref a), g3]) ∧ ∃ gs ts, H2 d = some (.lst ts) ∧ A2 (fun v w => DV H2 v (wd w)) ts gs ∧ gs.Nodup ∧ gs.length ≤ 1 + ((fs.take i).map List.length).sum + j ∧ ∀ w, w ∈ gs ↔ Beg (fs.take i) w ∨ ∃ m, m < j ∧ w = f0.take (m + 1))
      ⟨s1, ⟨_, rfl⟩, gs, ts, hts, a1, nd, by omega, fun w => by simp [mem w]⟩ (fun j σ H2 hj h => ?_) (fun σ H2 h => ?_)
    · obtain ⟨s2, ⟨g3, rfl⟩, gs, ts, hts, a2, nd, gl2, mem2⟩ := h
      rw [eN] at hj
      refine ⟨_, rfl, _, rfl, _, _, rfl, rfl, _, rfl, a, _, rfl, s2 _ _ ha, fun b H3 s3 hb => ?_⟩
      have hb' : H3 b = some (.tup ((f0.take (j + 1)).map fun c : Nat => V.int (c : Int))) := by
        rw [hb, show (0 : Int) + (j : Int) + 1 = ((j + 1 : Nat) : Int) by omega, cutV_to, List.map_take]
      have a3 := a2.mono fun v w h => h.mono (same_tp s3)
      have step : ∀ gs' : List (List Nat), (∀ w, w ∈ gs' ↔ w ∈ gs ∨ w = f0.take (j + 1)) → ∀ w, w ∈ gs' ↔ Beg (fs.take i) w ∨ ∃ m, m < j + 1 ∧ w = f0.take (m + 1) := fun gs' hg w => by
        rw [hg w, mem2 w]
        constructor
        · rintro ((h | ⟨m, hm, h⟩) | h)
          · exact .inl h
          · exact .inr ⟨m, by omega, h⟩
          · exact .inr ⟨j, by omega, h⟩
        · rintro (h1 | ⟨m, hm, h1⟩)
          · exact .inl (.inl h1)
          · by_cases c : m = j
            · rw [c] at h1; exact .inr h1
            · exact .inl (.inr ⟨m, by omega, h1⟩)
      refine ⟨_, rfl, wd (f0.take (j + 1)), d, ts, _, .of_word hb', rfl, .inr (s3 _ _ hts), dvs_a2 a3, Nat.le_trans (wd_deep _) (by decide), fun c hc => ⟨_, rfl, ?_⟩⟩
      rw [mem_wd] at hc
      refine ite2 (fun cT => ?_) (fun cF => ?_)
      · have new := hc.mp cT
        refine ⟨_, rfl, .inl ⟨rfl, _, SqL.of (s3 _ _ hts)⟩, ?_⟩
        refine ⟨_, rfl, _, rfl, _, _, rfl, rfl, _, rfl, a, _, rfl, s3 _ _ (s2 _ _ ha), fun b2 H4 s4 hb2 => ?_⟩
        have hb3 : H4 b2 = some (.tup ((f0.take (j + 1)).map fun c : Nat => V.int (c : Int))) := by
          rw [hb2, show (0 : Int) + (j : Int) + 1 = ((j + 1 : Nat) : Int) by omega, cutV_to, List.map_take]
        have hts4 := s4 _ _ (s3 _ _ hts)
        refine ⟨d, ts, _, rfl, rfl, hts4, ?_, ?_⟩
        · have := a2.length
          exact small1000 (by omega)
        · have tp : Tups H4 (upd H4 d (.lst (ts ++ [V.ref b2]))) := tups_upd fun xs e => by rw [hts4] at e; cases e
          refine ⟨fun c o e => ?_, ⟨_, rfl⟩, gs ++ [f0.take (j + 1)], _, upd_same, (a3.mono fun v w h => (h.mono (same_tp s4)).mono tp).append (.cons (.of_word (tp _ _ hb3)) .nil), ?_, by rw [List.length_append, List.length_singleton]; omega, step _ fun w => by rw [List.mem_append, List.mem_singleton]⟩
          · rw [upd_ne (ne_of_none e Hd)]
            exact s4 _ _ (s3 _ _ (s2 _ _ e))
          · exact List.nodup_append.mpr ⟨nd, by simp, fun x hx y hy e => by simp at hy; subst hy; subst e; exact new hx⟩
      · have old : f0.take (j + 1) ∈ gs := Classical.byContradiction fun z => cF (hc.mpr z)
        exact ⟨s2.trans s3, ⟨_, rfl⟩, gs, ts, s3 _ _ hts, a3, nd, by omega, step _ fun w => ⟨.inl, fun h => h.elim id fun e => by rw [e]; exact old⟩⟩
    · obtain ⟨s2, ⟨g3, rfl⟩, gs, ts, hts, a2, nd, gl2, mem2⟩ := h
      rw [eN] at gl2 mem2
      refine ⟨s2, ⟨_, _, rfl⟩, gs, ts, hts, a2, nd, by omega, fun w => ?_⟩
      rw [mem2 w, tk]
      unfold Beg
      simp only [List.mem_append, List.mem_singleton]
      constructor
      · rintro ((h | ⟨x, hx, h⟩) | ⟨m, hm, rfl⟩)
        · exact .inl h
        · exact .inr ⟨x, .inl hx, h⟩
        · exact .inr ⟨f0, .inr rfl, List.take_prefix _ _⟩
      · rintro (h | ⟨x, hx | rfl, h⟩)
        · exact .inl (.inl h)
        · exact .inl (.inr ⟨x, hx, h⟩)
        · by_cases e : w = []
          · exact .inl (.inl e)
          · refine .inr ⟨w.length - 1, ?_, ?_⟩
            · have := h.length_le
              have : w.length ≠ 0 := fun z => e (List.length_eq_zero_iff.mp z)
              omega
            · have : w.length ≠ 0 := fun z => e (List.length_eq_zero_iff.mp z)
              rw [show w.length - 1 + 1 = w.length by omega]
              exact (List.prefix_iff_eq_take.mp h)
  · obtain ⟨s1, ⟨g2, g3, rfl⟩, gs, ts, hts, a1, nd, gl, mem⟩ := h
    rw [hlen, List.take_length] at gl mem
    refine ⟨_, rfl, d, ts, gs, rfl, hts, dvs_a2 a1, by omega, nd, fun q H2 us' ws s2 hq hv so me => k q H2 us' ws (s1.trans s2) hq hv so (fun w => by rw [me w, mem w]) (by rw [sorted_len so nd me]; exact gl)⟩
end
end Toy

set_option Elab.async false
set_option linter.all false
set_option maxRecDepth 100000
set_option maxHeartbeats 4000000
namespace Toy
open PySem L2
/-! the law's search for a full watcher -/
def runT (δ : Nat → Nat → Nat) : Nat → List Nat → Nat
  | r, [] => r
  | r, c :: w => runT δ (δ r c) w
theorem runT_of {δ : Nat → Nat → Nat} {k : Lk} (h : ∀ r c s, k r c = some s → δ r c = s) : ∀ (w : List Nat) (r s : Nat), run k r w = some s → runT δ r w = s
  | [], r, s, e => by injection e
  | c :: w, r, s, e => by
    unfold run at e
    cases g : k r c with
    | none => rw [g] at e; cases e
    | some t =>
      rw [g] at e
      unfold runT
      rw [h r c t g]
      exact runT_of h w t s e
/-- a full watcher with m rows over k that fits the samples -/
def Fits (m : Nat) (ss : List (List Nat × Nat)) (k : Lk) : Prop := ∃ δ : Nat → Nat → Nat, (∀ r c s, k r c = some s → δ r c = s) ∧ (∀ r c, r < m → c < 2 → δ r c < m) ∧ ∀ x ∈ ss, ∀ y ∈ ss, runT δ 0 x.1 = runT δ 0 y.1 → x.2 = y.2
theorem Fits.down {m : Nat} {ss : List (List Nat × Nat)} {k k' : Lk} (le : k.le k') (h : Fits m ss k') : Fits m ss k := by
  obtain ⟨δ, h1, h2, h3⟩ := h
  exact ⟨δ, fun r c s e => h1 r c s (le r c s e), h2, h3⟩
theorem Fits.up {m : Nat} {ss : List (List Nat × Nat)} {k : Lk} {s c : Nat} (hs : s < m) (hc : c < 2) (h : Fits m ss k) : ∃ o, o < m ∧ Fits m ss (k.put s c o) := by
  obtain ⟨δ, h1, h2, h3⟩ := h
  refine ⟨δ s c, h2 s c hs hc, δ, fun r c' t e => ?_, h2, h3⟩
  unfold Lk.put at e
  by_cases q : r = s ∧ c' = c
  · rw [if_pos q] at e
    rw [q.1, q.2]
    exact Option.some.inj e
  · rw [if_neg q] at e
    exact h1 r c' t e
theorem fits_all {m : Nat} {ss : List (List Nat × Nat)} {k : Lk} (hm : 0 < m) (lt : ∀ r c s, k r c = some s → s < m) (all : ∀ x ∈ ss, (run k 0 x.1).isSome = true) (co : ∀ x ∈ ss, ∀ y ∈ ss, run k 0 x.1 = run k 0 y.1 → x.2 = y.2) : Fits m ss k := by
  have h1 : ∀ r c s, k r c = some s → (k r c).getD 0 = s := fun r c s e => by rw [e]; rfl
  refine ⟨fun r c => (k r c).getD 0, h1, fun r c _ _ => ?_, fun x hx y hy e => co x hx y hy ?_⟩
  · show (k r c).getD 0 < m
    cases g : k r c with
    | none => exact hm
    | some s => exact lt r c s g
  · obtain ⟨s, hs⟩ := Option.isSome_iff_exists.mp (all x hx)
    obtain ⟨t, ht⟩ := Option.isSome_iff_exists.mp (all y hy)
    rw [runT_of h1 _ _ _ hs, runT_of h1 _ _ _ ht] at e
    rw [hs, ht, e]
def kp (p : Nat × Nat) : List Key := [Sum.inl (p.1 : Int), Sum.inl (p.2 : Int)]
theorem kp_inj {p q : Nat × Nat} (h : kp p = kp q) : p = q := by
  unfold kp at h
  injection h with h1 h2
  injection h2 with h2 _
  exact Prod.ext (by injection h1 with h1; omega) (by injection h2 with h2; omega)
/-- the links k as a dict at d, the keys ns -/
structure LkD (H : Hp) (d : Addr) (m : Nat) (k : Lk) (ns : List (Nat × Nat)) (mm : List (List Key × V)) : Prop where
  at_ : H d = some (.dT mm)
  keys : mm.map (·.1) = ns.map kp
  nd : ns.Nodup
  lt : ∀ p ∈ ns, p.1 < m ∧ p.2 < 2
  val : ∀ r c : Nat, valV mm (kp (r, c)) = (k r c).map fun v => V.int ((v : Nat) : Int)
  vlt : ∀ r c s, k r c = some s → s < m
theorem hs00 : hashT [0, 0] = -8458139203682520985 := by
  unfold hashT Builtin.Tuple.tupleHashOf reduceHash hashInt rawHash
  simp
theorem hs01 : hashT [0, 1] = -1950498447580522560 := by
  unfold hashT Builtin.Tuple.tupleHashOf reduceHash hashInt rawHash
  simp
theorem hs10 : hashT [1, 0] = -5164621852614943976 := by
  unfold hashT Builtin.Tuple.tupleHashOf reduceHash hashInt rawHash
  simp
theorem hs11 : hashT [1, 1] = 8389048192121911274 := by
  unfold hashT Builtin.Tuple.tupleHashOf reduceHash hashInt rawHash
  simp
theorem hs20 : hashT [2, 0] = 4685526799349444076 := by
  unfold hashT Builtin.Tuple.tupleHashOf reduceHash hashInt rawHash
  simp
theorem hs21 : hashT [2, 1] = 6794810172467074373 := by
  unfold hashT Builtin.Tuple.tupleHashOf reduceHash hashInt rawHash
  simp
def tabP : Nat × Nat → Int
  | (0, 0) => -8458139203682520985
  | (0, 1) => -1950498447580522560
  | (1, 0) => -5164621852614943976
  | (1, 1) => 8389048192121911274
  | (2, 0) => 4685526799349444076
  | (2, 1) => 6794810172467074373
  | _ => 0
theorem tabP_is : ∀ p ∈ [(0,0),(0,1),(1,0),(1,1),(2,0),((2:Nat),(1:Nat))], hashT [((p : Nat × Nat).1 : Int), (p.2 : Int)] = tabP p := by
  intro p hp
  simp only [List.mem_cons, List.not_mem_nil, or_false] at hp
  rcases hp with rfl | rfl | rfl | rfl | rfl | rfl
  · simpa [tabP] using hs00
  · simpa [tabP] using hs01
  · simpa [tabP] using hs10
  · simpa [tabP] using hs11
  · simpa [tabP] using hs20
  · simpa [tabP] using hs21
theorem tabP_inj : ∀ p ∈ [(0,0),(0,1),(1,0),(1,1),(2,0),((2:Nat),(1:Nat))], ∀ q ∈ [(0,0),(0,1),(1,0),(1,1),(2,0),((2:Nat),(1:Nat))], tabP p = tabP q → p = q := by decide
theorem pair_hash (p : Nat × Nat) (hp : p ∈ [(0,0),(0,1),(1,0),(1,1),(2,0),((2:Nat),(1:Nat))]) (q : Nat × Nat) (hq : q ∈ [(0,0),(0,1),(1,0),(1,1),(2,0),((2:Nat),(1:Nat))]) (e : hashT [(p.1 : Int), (p.2 : Int)] = hashT [(q.1 : Int), (q.2 : Int)]) : p = q := by
  rw [tabP_is p hp, tabP_is q hq] at e
  exact tabP_inj p hp q hq e
theorem six {p : Nat × Nat} (h : p.1 < 3 ∧ p.2 < 2) : p ∈ [(0,0),(0,1),(1,0),(1,1),(2,0),((2:Nat),(1:Nat))] := by
  obtain ⟨a, b⟩ := p
  obtain ⟨h1, h2⟩ := h
  have h1 : a < 3 := h1
  have h2 : b < 2 := h2
  have ha : a = 0 ∨ a = 1 ∨ a = 2 := by omega
  have hb : b = 0 ∨ b = 1 := by omega
  rcases ha with rfl | rfl | rfl <;> rcases hb with rfl | rfl <;> simp
theorem LkD.hash {H : Hp} {d : Addr} {m : Nat} {k : Lk} {ns : List (Nat × Nat)} {mm : List (List Key × V)} (h : LkD H d m k ns mm) (hm : m ≤ 3) :
    mm.map (·.1) = (ns.map fun p => [((p.1 : Nat) : Int), ((p.2 : Nat) : Int)]).map (fun n => n.map Sum.inl) ∧ ((ns.map fun p => [((p.1 : Nat) : Int), ((p.2 : Nat) : Int)]).map hashT).Nodup := by
  refine ⟨by rw [h.keys, List.map_map]; rfl, ?_⟩
  refine List.pairwise_map.mpr (List.pairwise_map.mpr (h.nd.imp_of_mem fun {p q} hp hq ne e => ne ?_))
  have lp := h.lt p hp
  have lq := h.lt q hq
  exact pair_hash p (six ⟨by omega, lp.2⟩) q (six ⟨by omega, lq.2⟩) e
theorem LkD.len {H : Hp} {d : Addr} {m : Nat} {k : Lk} {ns : List (Nat × Nat)} {mm : List (List Key × V)} (h : LkD H d m k ns mm) : mm.length = ns.length := by
  have := congrArg List.length h.keys
  simpa using this
theorem LkD.same {H H' : Hp} {d : Addr} {m : Nat} {k : Lk} {ns : List (Nat × Nat)} {mm : List (List Key × V)} (h : LkD H d m k ns mm) (s : Same H H') : LkD H' d m k ns mm := ⟨s _ _ h.at_, h.keys, h.nd, h.lt, h.val, h.vlt⟩
theorem LkD.mem {H : Hp} {d : Addr} {m : Nat} {k : Lk} {ns : List (Nat × Nat)} {mm : List (List Key × V)} (h : LkD H d m k ns mm) {r c : Nat} : (r, c) ∈ ns ↔ (k r c).isSome = true := by
  have e : (valV mm (kp (r, c))).isSome = (k r c).isSome := by rw [h.val]; cases k r c <;> rfl
  rw [← e, ← valV_any, List.any_eq_true]
  constructor
  · intro hm
    have : kp (r, c) ∈ mm.map (·.1) := by rw [h.keys]; exact List.mem_map.mpr ⟨_, hm, rfl⟩
    obtain ⟨p, hp, e⟩ := List.mem_map.mp this
    exact ⟨p, hp, decide_eq_true e⟩
  · rintro ⟨p, hp, e⟩
    have : p.1 ∈ ns.map kp := by rw [← h.keys]; exact List.mem_map.mpr ⟨p, hp, rfl⟩
    obtain ⟨q, hq, e2⟩ := List.mem_map.mp this
    have := kp_inj (e2.trans (of_decide_eq_true e))
    rwa [← this]
/-- a further link -/
theorem LkD.put {H : Hp} {d d2 : Addr} {m : Nat} {k : Lk} {ns : List (Nat × Nat)} {mm : List (List Key × V)} (h : LkD H d m k ns mm) {r c o : Nat} (hr : r < m) (hc : c < 2) (ho : o < m) (hn : k r c = none) {H' : Hp} (e : H' d2 = some (.dT (putK mm (kp (r, c)) (.int ((o : Nat) : Int))))) :
    LkD H' d2 m (k.put r c o) (ns ++ [(r, c)]) (putK mm (kp (r, c)) (.int ((o : Nat) : Int))) := by
  have vn : valV mm (kp (r, c)) = none := by rw [h.val, hn]; rfl
  refine ⟨e, ?_, ?_, fun p hp => ?_, fun r' c' => ?_, fun r' c' s' e' => ?_⟩
  · rw [put_fresh vn, List.map_append, List.map_append, h.keys]; rfl
  · refine List.nodup_append.mpr ⟨h.nd, by simp, fun x hx y hy e => ?_⟩
    simp at hy
    subst hy; subst e
    have := h.mem.mp hx
    rw [hn] at this; cases this
  · rcases List.mem_append.mp hp with z | z
    · exact h.lt p z
    · simp at z; subst z; exact ⟨hr, hc⟩
  · rw [valV_put, h.val]
    unfold Lk.put
    by_cases q : r' = r ∧ c' = c
    · obtain ⟨rfl, rfl⟩ := q
      rw [if_pos rfl, if_pos ⟨rfl, rfl⟩]; rfl
    · rw [if_neg q, if_neg fun z => q ⟨congrArg Prod.fst (kp_inj z), congrArg Prod.snd (kp_inj z)⟩]
  · unfold Lk.put at e'
    by_cases q : r' = r ∧ c' = c
    · rw [if_pos q] at e'; injection e' with e'; omega
    · rw [if_neg q] at e'; exact h.vlt _ _ _ e'
def smD (x : List Nat × Nat) : Da := .tup [wd x.1, .int ((x.2 : Nat) : Int)]
def spFit : Nat → Sp
  | 0 => fun _ _ _ _ => False
  | n + 1 => fun vs H Q _ => ∃ p d us ss m k ns mm, vs = [.ref p, .int ((m : Nat) : Int), .ref d] ∧ H p = some (.lst us) ∧ DVs H us (ss.map smD) ∧ (∀ x ∈ ss, ∀ c ∈ x.1, c < 2) ∧ ss.length ≤ 900 ∧ LkD H d m k ns mm ∧ 0 < m ∧ m ≤ 3 ∧ 2 * m ≤ ns.length + n ∧
    ∀ b H', (b = true ↔ Fits m ss k) → Same H H' → Q (.bl b) H'
end Toy

set_option Elab.async false
set_option linter.all false
set_option maxRecDepth 100000
set_option maxHeartbeats 4000000
namespace Toy
open PySem L2
section
variable {P : Program} {w : World} {K : PySem.W.Frag} {mg : Str → Option Value} {base : Heap} {CR : Addr}
theorem nd_le : ∀ (n : Nat) (l : List Nat), l.Nodup → (∀ x ∈ l, x < n) → l.length ≤ n
  | 0, l, _, h => by
    cases l with
    | nil => exact Nat.le_refl _
    | cons a l => exact absurd (h a (by simp)) (Nat.not_lt_zero _)
  | n + 1, l, nd, h => by
    have ih := nd_le n (l.erase n) (nd.erase n) fun x hx => by
      have := (nd.mem_erase_iff).mp hx
      have := h x this.2
      omega
    by_cases m : n ∈ l
    · rw [List.length_erase_of_mem m] at ih; omega
    · rw [List.erase_of_not_mem m] at ih; omega
theorem LkD.few {H : Hp} {d : Addr} {m : Nat} {k : Lk} {ns : List (Nat × Nat)} {mm : List (List Key × V)} (h : LkD H d m k ns mm) {r c : Nat} (hr : r < m) (hc : c < 2) (hn : k r c = none) : ns.length + 1 ≤ 2 * m := by
  have nd : (ns ++ [(r, c)]).Nodup := List.nodup_append.mpr ⟨h.nd, by simp, fun x hx y hy e => by
    simp at hy; subst hy; subst e
    have := h.mem.mp hx
    rw [hn] at this; cases this⟩
  have lt : ∀ p ∈ ns ++ [(r, c)], p.1 < m ∧ p.2 < 2 := fun p hp => by
    rcases List.mem_append.mp hp with z | z
    · exact h.lt p z
    · simp at z; subst z; exact ⟨hr, hc⟩
  have := nd_le (2 * m) ((ns ++ [(r, c)]).map fun p => 2 * p.1 + p.2) (List.pairwise_map.mpr (nd.imp_of_mem fun {p q} hp hq ne e => ne (by
    have := lt p hp
    have := lt q hq
    exact Prod.ext (by omega) (by omega)))) fun x hx => by
      obtain ⟨p, hp, rfl⟩ := List.mem_map.mp hx
      have := lt p hp
      omega
  rw [List.length_map, List.length_append, List.length_singleton] at this
  exact this
theorem kp_vs (r c : Nat) : (kp (r, c)).map kV = [V.int (r : Int), V.int (c : Int)] := rfl
abbrev s_l_fit : Stmt := top 24
theorem sc_l_fit : FnScope ["samples", "many", "links", "ends", "word", "label", "row", "cell", "key", "other", "more"] ["samples", "many", "links"] (defScope s_l_fit) := ⟨rfl, rfl, rfl, by decide +kernel, rfl, by decide +kernel, by decide +kernel⟩

theorem ok_fit {n : Nat} {f : Addr} {fd : FuncData} (F : Fun K "_law_fit" "_law_fit" s_l_fit f fd) (T : Txt K mg CR) (C__law_fit : CalX P w K mg base CX0 (n + 1) "_law_fit" (spFit n)) : FnOk P w K mg base CX0 (n + 2) f fd ["samples", "many", "links"] (spFit (n + 1)) := by
  refine F.ok sc_l_fit (fun vs H Q E h => ?_) (fun cdv A outer s H vs Q E hr h => ?_)
  · obtain ⟨p, d, us, ss, m, k, ns, mm, rfl, _⟩ := h
    rfl
  obtain ⟨p, d, us, ss, m, k, ns, mm, rfl, hp, hus, bin, few, L, m0, m3, ms, kk⟩ := h
  have hr : Room (n + 1) _ := hr
  have hul := hus.length
  rw [List.length_map] at hul
  refine ⟨_, (pss_cons (ps_set (i := 3) sc_l_fit.nd rfl (Or.inl rfl) pe_dnewK)
    (pss_cons (ps_for PassesOwn.never rfl (pi_list (pv 0)) (pg_tup (by rfl) (pgs_cons (pg_name (i := 4) sc_l_fit.nd rfl (Or.inl rfl)) (pgs_cons (pg_name (i := 5) sc_l_fit.nd rfl (Or.inl rfl)) pgs_nil))) (pss_cons (ps_set (i := 6) sc_l_fit.nd rfl (Or.inl rfl) pe_int)
    (pss_cons (ps_for PassesOwn.never rfl (pi_tup (pv 4)) (pg_name (i := 7) sc_l_fit.nd rfl (Or.inl rfl)) (pss_cons (ps_set (i := 8) sc_l_fit.nd rfl (Or.inl rfl) (pe_tup (pa_cons (pv 6) (pa_cons (pv 7) pa_nil))))
    (pss_cons (ps_if (pt_cmp (pc_dnotin (hu_b hr) (pv 8) (pv 2)) rfl) (pss_cons (ps_for PassesOwn.never rfl (pi_range1 (by rfl) T.z_range (pa_cons (pv 1) pa_nil)) (pg_name (i := 9) sc_l_fit.nd rfl (Or.inl rfl)) (pss_cons (ps_set (i := 10) sc_l_fit.nd rfl (Or.inl rfl) (pe_callTy (call_dictT (hu_d hr)) (by rfl) T.z_dict b_dict (pa_cons (pv 2) pa_nil)))
    (pss_cons (ps_dput (hu_b hr) (pv 10) (pv 8) (pv 9) rfl)
    (pss_one (ps_if (pt_val (pe_u C__law_fit hr (by omega) pass0 (pa_cons (pv 0) (pa_cons (pv 1) (pa_cons (pv 10) pa_nil))))) (pss_one (ps_ret pe_bl)) pss_nil)))))
    (pss_one (ps_ret pe_bl))) pss_nil)
    (pss_one (ps_set (i := 6) sc_l_fit.nd rfl (Or.inl rfl) (pe_dget (hu_b hr) (pv 2) (pv 8) (fun _ _ => rfl)))))))
    (pss_one (ps_if (pt_cmpR op_ne (pe_dsetd (pv 3) (pv 6) (pv 5) ⟨by rfl, by rfl, by rfl, by rfl⟩) (pv 5) (nomark _)) (pss_one (ps_ret pe_bl)) pss_nil)))))
    (pss_one (ps_ret pe_bl)))), ?_⟩
  intro e he
  refine ⟨_, rfl, p, rfl, ⟨_, SqL.of (by rw [upd_ne (ne_of_none hp he)]; exact hp)⟩, for_list (K := K) (a := p) (xs := us) (fun i σ H' => Same H H' ∧ (∃ g4 g5 g6 g7 g8 g9 g10, σ = [some (.ref p), some (.int ((m : Nat) : Int)), some (.ref d), some (.ref e), g4, g5, g6, g7, g8, g9, g10]) ∧ ∃ me, H' e = some (.dK me) ∧ me.length ≤ i ∧
      (∀ j x, j < i → ss[j]? = some x → ∃ r, run k 0 x.1 = some r ∧ valV me (Sum.inl (r : Int)) = some (.int ((x.2 : Nat) : Int))) ∧
      (∀ (r : Nat) v, valV me (Sum.inl (r : Int)) = some v → ∃ j x, j < i ∧ ss[j]? = some x ∧ run k 0 x.1 = some r ∧ v = .int ((x.2 : Nat) : Int)))
    ⟨Same.upd he, ⟨_, _, _, _, _, _, _, rfl⟩, [], upd_same, Nat.le_refl _, fun j x z => absurd z (Nat.not_lt_zero _), fun r v z => nomatch z⟩ (fun i σ H' _ h => SqL.of (h.1 _ _ hp)) (fun i x σ H' hx h => ?_) (fun σ H' h => ?_)⟩
  · obtain ⟨s1, ⟨g4, g5, g6, g7, g8, g9, g10, rfl⟩, me, hme, mel, don, back⟩ := h
    obtain ⟨q, hq, dv⟩ := hus.get hx
    rw [List.getElem?_map] at hq
    obtain ⟨⟨w0, l0⟩, hw0, rfl⟩ := Option.map_eq_some_iff.mp hq
    obtain ⟨t, xs, rfl, ht, hxs⟩ := (dv.mono (same_tp s1)).inv
    cases hxs with
    | cons h1 h2 =>
      cases h2 with
      | cons h3 h4 =>
        cases h4
        cases h3
        obtain ⟨wp, rfl, hwp⟩ := h1.word
        have hi : i < us.length := (List.getElem?_eq_some_iff.mp hx).1
        refine ⟨t, _, rfl, SqT.of ht, rfl, _, _, rfl, _, _, rfl, rfl, ?_⟩
        refine ⟨_, rfl, wp, rfl, ⟨_, SqT.of hwp⟩, for_tup (K := K) (a := wp) (xs := w0.map fun c : Nat => V.int (c : Int)) (fun j σ H2 => Same H' H2 ∧ (∃ r g7 g8 g9 g10, σ = [some (.ref p), some (.int ((m : Nat) : Int)), some (.ref d), some (.ref e), some (.ref wp), some (.int ((l0 : Nat) : Int)), some (.int ((r : Nat) : Int)), g7, g8, g9, g10] ∧ r < m ∧ run k 0 (w0.take j) = some r))
          ⟨Same.refl _, 0, _, _, _, _, rfl, m0, rfl⟩ (fun j σ H2 _ h => SqT.of (h.1 _ _ hwp)) (fun j x σ H2 hx2 h => ?_) (fun σ H2 h => ?_)⟩
        · obtain ⟨s2, r, g7, g8, g9, g10, rfl, hrm, hrun⟩ := h
          rw [List.getElem?_map] at hx2
          obtain ⟨c, hc, rfl⟩ := Option.map_eq_some_iff.mp hx2
          have hc2 : c < 2 := bin _ (List.mem_of_getElem? hw0) c (List.mem_of_getElem? hc)
          have s12 := s1.trans s2
          have L2 := L.same s12
          refine ⟨_, rfl, _, rfl, by show 2 ≤ sizeLine; decide, fun kq hkq => ?_⟩
          have s3 : Same H (upd H2 kq (.tup [V.int (r : Int), V.int (c : Int)])) := s12.trans (Same.upd hkq)
          have s3' : Same H' (upd H2 kq (.tup [V.int (r : Int), V.int (c : Int)])) := s2.trans (Same.upd hkq)
          have kk3 : upd H2 kq (.tup [V.int (r : Int), V.int (c : Int)]) kq = some (.tup ((kp (r, c)).map kV)) := upd_same
          generalize upd H2 kq (.tup [V.int (r : Int), V.int (c : Int)]) = H3 at s3 s3' kk3 ⊢
          have L3 := L.same s3
          have dg := DGet.t L3.at_ kk3
          rw [L3.val] at dg
          have rsn : run k 0 (w0.take (j + 1)) = k r c := by
            rw [List.take_succ, hc]
            show run k 0 (w0.take j ++ [c]) = _
            rw [run_snoc, hrun]
            rfl
          refine ⟨_, rfl, _, rfl, d, _, rfl, dg, _, rfl, ?_⟩
          cases g : k r c with
          | some s0 =>
            refine ifF (by simp) ?_
            rw [g] at dg
            refine ⟨_, rfl, _, rfl, d, _, rfl, dg, s3', s0, _, _, _, _, rfl, L.vlt _ _ _ g, by rw [rsn, g]⟩
          | none =>
            refine ifT (by simp) ?_
            refine ⟨_, rfl, _, rfl, by omega, by omega, ?_⟩
            refine for_range (lo := 0) (n := ((m : Nat) : Int).toNat) (fun o σ H4 => Same H3 H4 ∧ (∃ g9 g10, σ = [some (.ref p), some (.int ((m : Nat) : Int)), some (.ref d), some (.ref e), some (.ref wp), some (.int ((l0 : Nat) : Int)), some (.int ((r : Nat) : Int)), some (.int ((c : Nat) : Int)), some (.ref kq), g9, g10]) ∧ ∀ o', o' < o → ¬ Fits m ss (k.put r c o')) ⟨Same.refl _, ⟨_, _, rfl⟩, fun o' z => absurd z (Nat.not_lt_zero _)⟩ (fun o σ H4 ho h => ?_) (fun σ H4 h => ?_)
            · obtain ⟨s4, ⟨g9, g10, rfl⟩, nof⟩ := h
              have ho : o < m := by omega
              have L4 := L3.same s4
              obtain ⟨n', rfl⟩ : ∃ n', n = n' + 1 := ⟨n - 1, by have := L.few hrm hc2 g; omega⟩
              refine ⟨_, rfl, d, mm, _, rfl, L4.at_, (L4.hash m3).1, (L4.hash m3).2, fun p2 hp2 => ?_⟩
              have kq4 := s4 _ _ kk3
              refine ⟨_, rfl, _, rfl, _, rfl, p2, _, rfl, .t upd_same (by rw [upd_ne (ne_of_none kq4 hp2)]; exact kq4) (small1000 (by have := L4.len; have := L.few hrm hc2 g; omega)), ?_⟩
              have s5 : Same H4 (upd (upd H4 p2 (.dT mm)) p2 (.dT (putK mm (kp (r, c)) (.int (0 + (o : Int)))))) := fun b v e => by
                rw [upd_ne (ne_of_none e hp2), upd_ne (ne_of_none e hp2)]; exact e
              have h5 : upd (upd H4 p2 (.dT mm)) p2 (.dT (putK mm (kp (r, c)) (.int (0 + (o : Int))))) p2 = some (.dT (putK mm (kp (r, c)) (.int (0 + (o : Int))))) := upd_same
              generalize upd (upd H4 p2 (.dT mm)) p2 (.dT (putK mm (kp (r, c)) (.int (0 + (o : Int))))) = H5 at s5 h5 ⊢
              rw [show (0 : Int) + (o : Int) = ((o : Nat) : Int) by omega] at h5
              have s35 := s3.trans (s4.trans s5)
              refine ⟨_, rfl, _, rfl, _, rfl, p, p2, us, ss, m, k.put r c o, _, _, rfl, s35 _ _ hp, hus.mono (same_tp s35), bin, few, L4.put hrm hc2 ho g h5, m0, m3, ?_, fun b H6 hb s6 => ⟨_, rfl, ite2 (fun bt => ?_) (fun bf => ?_)⟩⟩
              · rw [List.length_append, List.length_singleton]; omega
              · exact kk true H6 ⟨fun _ => (hb.mp bt).down (put_le (.inl g)), fun _ => rfl⟩ (s35.trans s6)
              · refine ⟨s4.trans (s5.trans s6), ⟨_, _, rfl⟩, fun o' lt => ?_⟩
                by_cases c2 : o' = o
                · subst c2; exact fun z => bf (hb.mpr z)
                · exact nof o' (by omega)
            · obtain ⟨s4, ⟨g9, g10, rfl⟩, nof⟩ := h
              refine kk false H4 ⟨fun z => (by cases z), fun z => ?_⟩ (s3.trans s4)
              obtain ⟨o, ho, hf⟩ := z.up hrm hc2
              exact absurd hf (nof o (by omega))
        · obtain ⟨s2, r, g7, g8, g9, g10, rfl, hrm, hrun⟩ := h
          rw [List.length_map, List.take_length] at hrun
          have s12 := s1.trans s2
          have hme2 := s2 _ _ hme
          have next : ∀ {me' : List (Key × V)} {H5 : Hp}, Same H H5 → H5 e = some (.dK me') → me'.length ≤ i + 1 → (∀ r' : Nat, valV me' (Sum.inl (r' : Int)) = if r' = r then some (.int ((l0 : Nat) : Int)) else valV me (Sum.inl (r' : Int))) → (valV me (Sum.inl (r : Int)) = none ∨ valV me (Sum.inl (r : Int)) = some (.int ((l0 : Nat) : Int))) →
              Same H H5 ∧ (∃ a4 a5 a6 a7 a8 a9 a10, [some (V.ref p), some (.int ((m : Nat) : Int)), some (.ref d), some (.ref e), some (.ref wp), some (.int ((l0 : Nat) : Int)), some (.int ((r : Nat) : Int)), g7, g8, g9, g10] = [some (V.ref p), some (.int ((m : Nat) : Int)), some (.ref d), some (.ref e), a4, a5, a6, a7, a8, a9, a10]) ∧ ∃ me, H5 e = some (.dK me) ∧ me.length ≤ i + 1 ∧
                (∀ j x, j < i + 1 → ss[j]? = some x → ∃ r, run k 0 x.1 = some r ∧ valV me (Sum.inl (r : Int)) = some (.int ((x.2 : Nat) : Int))) ∧ (∀ (r : Nat) v, valV me (Sum.inl (r : Int)) = some v → ∃ j x, j < i + 1 ∧ ss[j]? = some x ∧ run k 0 x.1 = some r ∧ v = .int ((x.2 : Nat) : Int)) := by
            intro me' H5 s5 h5 l5 v5 old
            refine ⟨s5, ⟨_, _, _, _, _, _, _, rfl⟩, me', h5, l5, fun j x hj hx3 => ?_, fun r' v hv => ?_⟩
            · by_cases c : j = i
              · subst c
                rw [hw0] at hx3
                obtain rfl := Option.some.inj hx3
                exact ⟨r, hrun, by rw [v5, if_pos rfl]⟩
              · obtain ⟨r', h1, h2⟩ := don j x (by omega) hx3
                refine ⟨r', h1, ?_⟩
                rw [v5]
                by_cases c2 : r' = r
                · subst c2
                  rw [if_pos rfl]
                  rcases old with o | o
                  · rw [o] at h2; cases h2
                  · rw [o] at h2; exact h2
                · rw [if_neg c2]; exact h2
            · rw [v5] at hv
              by_cases c2 : r' = r
              · subst c2
                rw [if_pos rfl] at hv
                exact ⟨i, _, by omega, hw0, hrun, (Option.some.inj hv).symm⟩
              · rw [if_neg c2] at hv
                obtain ⟨j, x, h1, h2, h3, h4⟩ := back r' v hv
                exact ⟨j, x, by omega, h2, h3, h4⟩
          refine ⟨_, rfl, e, rfl, .inl ⟨me, .inl hme2⟩, _, rfl, _, rfl, me, Sum.inl ((r : Nat) : Int), hme2, rfl, small1000 (by omega), fun v hv => ?_, fun hv => ?_⟩
          · obtain ⟨j, x, h1, h2, h3, rfl⟩ := back r v hv
            refine ⟨_, rfl, rfl, _, rfl, ite2 (fun c => ?_) (fun c => ?_)⟩
            · have ne : x.2 ≠ l0 := fun z => by rw [z] at c; exact absurd c (by simp)
              refine kk false H2 ⟨fun z => (by cases z), fun z => ?_⟩ s12
              obtain ⟨δ, f1, f2, f3⟩ := z
              have := f3 x (List.mem_of_getElem? h2) (w0, l0) (List.mem_of_getElem? hw0) (by rw [runT_of f1 _ _ _ h3, runT_of f1 _ _ _ hrun])
              exact absurd this ne
            · have eq : x.2 = l0 := by
                have : V.int ((x.2 : Nat) : Int) = V.int ((l0 : Nat) : Int) := by simpa using c
                injection this with this; omega
              rw [eq] at hv
              refine next s12 hme2 (by omega) (fun r' => ?_) (.inr hv)
              by_cases c2 : r' = r
              · subst c2; rw [if_pos rfl]; exact hv
              · rw [if_neg c2]
          · refine ⟨_, rfl, rfl, _, rfl, ifF (by simp) ?_⟩
            refine next (fun b o e3 => ?_) upd_same ?_ (fun r' => ?_) (.inl hv)
            · rw [upd_ne (ne_of_none e3 he)]; exact s12 _ _ e3
            · have := length_putK me (Sum.inl ((r : Nat) : Int)) (V.int ((l0 : Nat) : Int))
              omega
            · rw [valV_put]
              by_cases c2 : r' = r
              · subst c2; rw [if_pos rfl, if_pos rfl]
              · rw [if_neg c2, if_neg fun z => c2 (by injection z with z; omega)]
  · obtain ⟨s1, ⟨g4, g5, g6, g7, g8, g9, g10, rfl⟩, me, hme, mel, don, back⟩ := h
    refine kk true H' ⟨fun _ => fits_all m0 L.vlt (fun x hx => ?_) (fun x hx y hy e2 => ?_), fun _ => rfl⟩ s1
    · obtain ⟨j, hj, rfl⟩ := List.getElem_of_mem hx
      obtain ⟨r, h1, _⟩ := don j _ (by omega) (List.getElem?_eq_getElem hj)
      rw [h1]; rfl
    · obtain ⟨j, hj, rfl⟩ := List.getElem_of_mem hx
      obtain ⟨i, hi, rfl⟩ := List.getElem_of_mem hy
      obtain ⟨r, h1, v1⟩ := don j _ (by omega) (List.getElem?_eq_getElem hj)
      obtain ⟨r', h2, v2⟩ := don i _ (by omega) (List.getElem?_eq_getElem hi)
      rw [h1, h2] at e2
      obtain rfl := Option.some.inj e2
      rw [v1] at v2
      injection v2 with v2
      injection v2 with v2
      omega
end
end Toy

set_option Elab.async false
set_option linter.all false
set_option maxRecDepth 100000
set_option maxHeartbeats 4000000
namespace Toy
open PySem L2
def dsj (R W : List (List Nat)) : Prop := ∀ w, w ∈ R → w ∉ W
/-- right and wrong samples as drawn -/
def spSamples (nmax : Nat) : Sp := fun vs H Q _ => ∃ (d l : Addr) (ns : List Int) (m : Nat), vs = [.ref d, .int ((m : Nat) : Int)] ∧ Dr H d l ns ∧ 0 < m ∧ m ≤ nmax ∧
  ∀ (v : V) (H' : Hp) (R W : List (List Nat)), Keep d H H' → Dr H' d l ns → DV H' v (sampD R W) → Bin R → Bin W → dsj R W → (∀ w ∈ R ++ W, w.length ≤ 3) → R.length + W.length ≤ m → Q v H'
theorem Dr.upd2 {H : Hp} {d l p : Addr} {ns : List Int} {o : HO} (h : Dr H d l ns) (h1 : p ≠ d) (h2 : p ≠ l) : Dr (upd H p o) d l ns := by
  obtain ⟨i, f, g, h0, e1, e2⟩ := h
  exact ⟨i, f, g, h0, by rw [upd_ne (Ne.symm h1)]; exact e1, by rw [upd_ne (Ne.symm h2)]; exact e2⟩
theorem Dr.at1 {H : Hp} {d l : Addr} {ns : List Int} (h : Dr H d l ns) : ∃ o, H d = some o := by
  obtain ⟨i, f, g, h0, e1, e2⟩ := h
  exact ⟨_, e1⟩
theorem Dr.at2 {H : Hp} {d l : Addr} {ns : List Int} (h : Dr H d l ns) : ∃ o, H l = some o := by
  obtain ⟨i, f, g, h0, e1, e2⟩ := h
  exact ⟨_, e2⟩
theorem Dr.new {H : Hp} {d l p : Addr} {ns : List Int} (h : Dr H d l ns) (hp : H p = none) : p ≠ d ∧ p ≠ l := by
  obtain ⟨o, e⟩ := h.at1
  obtain ⟨o2, e2⟩ := h.at2
  exact And.intro (fun z => by rw [z, e] at hp; cases hp) (fun z => by rw [z, e2] at hp; cases hp)
section
variable {P : Program} {w : World} {K : PySem.W.Frag} {mg : Str → Option Value} {base : Heap} {CR : Addr}
abbrev s_l_samples : Stmt := top 25
theorem sc_l_samples : FnScope ["d", "many", "right", "wrong", "k", "word", "j"] ["d", "many"] (defScope s_l_samples) := ⟨rfl, rfl, rfl, by decide +kernel, rfl, by decide +kernel, by decide +kernel⟩

theorem ok_samples {f : Addr} {fd : FuncData} (F : Fun K "_law_samples" "_law_samples" s_l_samples f fd) (T : Txt K mg CR) (C__law_draw : CalX P w K mg base CX0 1 "_law_draw" spDraw) (C__law_pick : CalX P w K mg base CX0 2 "_law_pick" spPick) : FnOk P w K mg base CX0 3 f fd ["d", "many"] (spSamples 100) := by
  refine F.ok sc_l_samples (fun vs H Q E h => ?_) (fun cdv A outer s H vs Q E hr h => ?_)
  · obtain ⟨d, l, ns, m, rfl, _⟩ := h
    rfl
  obtain ⟨d, l, ns, m, rfl, D0, m0, mh, k⟩ := h
  refine ⟨_, (pss_cons (ps_set (i := 2) sc_l_samples.nd rfl (Or.inl rfl) (pe_lst pa_nil))
    (pss_cons (ps_set (i := 3) sc_l_samples.nd rfl (Or.inl rfl) (pe_lst pa_nil))
    (pss_cons (ps_for PassesOwn.never rfl (pi_range1 (by rfl) T.z_range (pa_cons (pe_op op_add pe_int (pe_u C__law_draw hr (by omega) pass0 (pa_cons (pv 0) (pa_cons (pv 1) pa_nil)))) pa_nil)) (pg_name (i := 4) sc_l_samples.nd rfl (Or.inl rfl)) (pss_cons (ps_set (i := 5) sc_l_samples.nd rfl (Or.inl rfl) (pe_callTy call_tuple_of (by rfl) T.z_tuple b_tuple (pa_cons (pe_lc (own := [("j", 6)]) (g := gName 6) (by rfl) sc_l_samples.nd (pi_range1 (by rfl) T.z_range (pa_cons (pe_u C__law_draw hr (by omega) pass0 (pa_cons (pv 0) (pa_cons pe_int pa_nil))) pa_nil)) (blkOk_by (own := [("j", 6)]) (N := ["d", "many", "right", "wrong", "k", "word", "j"]) (sc := defScope s_l_samples) (by decide +kernel)) (fun _ _ _ _ _ => pg_name (i := 6) sc_l_samples.nd rfl (Or.inl rfl)) (fun _ _ _ _ _ => pts_nil) (fun _ _ _ _ _ => (pe_u C__law_draw hr (by omega) pass0 (pa_cons (pv 0) (pa_cons pe_int pa_nil))))) pa_nil)))
    (pss_one (ps_if (PW.pt (pw_and (pt_cmpR (op_niA (hu_a hr)) (pv 5) (pv 2) rfl) (pw_and1 (pt_cmpR (op_niA (hu_a hr)) (pv 5) (pv 3) rfl)))) (pss_one (ps_expr (pe_bm PySem.F.plainAttrs_list PySem.F.slot_list_append PySem.F.type_list_append mt_append (pe_u C__law_pick hr (by omega) pass0 (pa_cons (pv 0) (pa_cons (pe_lst (pa_cons (pv 2) (pa_cons (pv 3) pa_nil))) pa_nil))) (pa_cons (pv 5) pa_nil)))) pss_nil))))
    (pss_one (ps_ret (pe_tup (pa_cons (pe_callTy call_tuple_of (by rfl) T.z_tuple b_tuple (pa_cons (pv 2) pa_nil)) (pa_cons (pe_callTy call_tuple_of (by rfl) T.z_tuple b_tuple (pa_cons (pv 3) pa_nil)) pa_nil)))))))), ?_⟩
  refine ⟨by show 0 ≤ sizeLine; decide, fun pr hpr => ⟨by show 0 ≤ sizeLine; decide, fun pw hpw => ?_⟩⟩
  have prn := D0.new hpr
  have D1 := D0.upd2 (o := .lst []) prn.1 prn.2
  have pwn := D1.new hpw
  have D2 := D1.upd2 (o := .lst []) pwn.1 pwn.2
  have wr : pw ≠ pr := fun z => by rw [z, upd_same] at hpw; cases hpw
  have hpw0 : H pw = none := by rw [upd_ne wr] at hpw; exact hpw
  have K2 : Keep d H (upd (upd H pr (.lst [])) pw (.lst [])) := fun b o _ e => by rw [upd_ne (ne_of_none e hpw0), upd_ne (ne_of_none e hpr)]; exact e
  have hr2 : upd (upd H pr (.lst [])) pw (.lst []) pr = some (.lst []) := by rw [upd_ne (Ne.symm wr), upd_same]
  have hw2 : upd (upd H pr (.lst [])) pw (.lst []) pw = some (.lst []) := upd_same
  generalize upd (upd H pr (.lst [])) pw (.lst []) = H2 at D2 K2 hr2 hw2 ⊢
  refine ⟨_, rfl, _, rfl, d, l, ns, _, rfl, D2, by omega, by omega, fun r H3 r0 r1 k3 D3 => ⟨_, _, rfl, rfl, _, rfl, by omega, by omega, ?_⟩⟩
  have K3 := K2.trans k3
  refine for_range (lo := 0) (n := (1 + r).toNat) (fun i σ H' => Keep d H H' ∧ Dr H' d l ns ∧ (∃ g4 g5 g6, σ = [some (.ref d), some (.int ((m : Nat) : Int)), some (.ref pr), some (.ref pw), g4, g5, g6]) ∧ ∃ R W rs us, H' pr = some (.lst rs) ∧ H' pw = some (.lst us) ∧ DVs H' rs (R.map wd) ∧ DVs H' us (W.map wd) ∧ Bin R ∧ Bin W ∧ dsj R W ∧ (∀ w ∈ R ++ W, w.length ≤ 3) ∧ R.length + W.length ≤ i)
    ⟨K3, D3, ⟨_, _, _, rfl⟩, [], [], [], [], k3 _ _ prn.1 hr2, k3 _ _ pwn.1 hw2, .nil, .nil, (by intro w h; cases h), (by intro w h; cases h), (by intro w h; cases h), (by intro w h; cases h), Nat.le_refl _⟩ (fun i σ H' hi h => ?_) (fun σ H' h => ?_)
  · obtain ⟨K4, D4, ⟨g4, g5, g6, rfl⟩, R, W, rs, us, e1, e2, d1, d2, b1, b2', ds, l3, cnt⟩ := h
    refine ⟨_, rfl, d, l, ns, _, rfl, D4, by decide, by decide, fun n4 H5 n0 n1 k5 D5 => ⟨_, rfl, by omega, by omega, fun D hD => ?_⟩⟩
    have Dn := D5.new hD
    refine lc_range (lo := 0) (n := n4.toNat) (fun j H6 => Keep d H5 H6 ∧ Dr H6 d l ns ∧ ∃ w : List Nat, H6 D = some (.lst (w.map fun c : Nat => V.int (c : Int))) ∧ w.length = j ∧ ∀ c ∈ w, c < 2) ⟨(Same.upd hD).keep, D5.upd2 Dn.1 Dn.2, [], upd_same, rfl, by simp⟩ (fun j H6 hj h => ?_) (fun H6 h => ?_)
    · obtain ⟨k6, D6, w0, hw0, wl, wb⟩ := h
      refine ⟨rfl, ?_⟩
      simp only [tYes, if_true]
      refine ⟨_, rfl, d, l, ns, _, rfl, D6, by decide, by decide, fun c H7 c0 c1 k7 D7 => ⟨_, k7 _ _ Dn.1 hw0, ?_, ?_, ?_, w0 ++ [c.toNat], ?_, ?_, ?_⟩⟩
      · rw [List.length_map]; exact small1000 (by omega)
      · intro b o nb e
        rw [upd_ne (ne_of_none e hD)]
        exact k7 b o nb (k6 b o nb e)
      · exact D7.upd2 Dn.1 Dn.2
      · rw [upd_same, List.map_append]
        show some (HO.lst (_ ++ [V.int c])) = some (HO.lst (_ ++ [V.int ((c.toNat : Nat) : Int)]))
        rw [show ((c.toNat : Nat) : Int) = c by omega]
      · rw [List.length_append, wl]; rfl
      · intro x hx
        rcases List.mem_append.mp hx with z | z
        · exact wb x z
        · simp at z; omega
    · obtain ⟨k6, D6, w0, hw0, wl, wb⟩ := h
      refine ⟨D, _, rfl, .inl ⟨SqL.of hw0, fun tq htq => ?_⟩⟩
      have K6 := k5.trans k6
      have tqn := D6.new htq
      have s7 : Same H6 (upd H6 tq (.tup (w0.map fun c : Nat => V.int (c : Int)))) := Same.upd htq
      have h7 : upd H6 tq (.tup (w0.map fun c : Nat => V.int (c : Int))) tq = some (.tup (w0.map fun c : Nat => V.int (c : Int))) := upd_same
      generalize upd H6 tq (.tup (w0.map fun c : Nat => V.int (c : Int))) = H7 at s7 h7 ⊢
      have K7 : Keep d H' H7 := K6.trans s7.keep
      have D7 := D6.same s7
      have t7 := D4.tups K7
      have r7 := K7 _ _ prn.1 e1
      have w7 := K7 _ _ pwn.1 e2
      have dw : DV H7 (.ref tq) (wd w0) := .of_word h7
      refine ⟨_, rfl, _, rfl, wd w0, pr, rs, _, dw, rfl, .inr r7, d1.mono t7, Nat.le_trans (wd_deep _) (by decide), fun b hb => ⟨_, rfl, ?_⟩⟩
      rw [mem_wd] at hb
      have keepAll : Keep d H H7 := K4.trans K7
      refine ite2 (fun c1 => ?_) (fun c1 => ?_)
      · refine ⟨_, rfl, _, rfl, wd w0, pw, us, _, dw, rfl, .inr w7, d2.mono t7, Nat.le_trans (wd_deep _) (by decide), fun b2 hb2 => ⟨_, rfl, ?_⟩⟩
        rw [mem_wd] at hb2
        refine ite2 (fun c2 => ?_) (fun c2 => ?_)
        · have new1 := hb.mp c1
          have new2 := hb2.mp c2
          refine ⟨_, rfl, _, rfl, _, rfl, by show 2 ≤ sizeLine; decide, fun q hq => ?_⟩
          have qn := D7.new hq
          have s8 : Same H7 (upd H7 q (.lst [.ref pr, .ref pw])) := Same.upd hq
          have h8 : upd H7 q (.lst [.ref pr, .ref pw]) q = some (.lst [.ref pr, .ref pw]) := upd_same
          generalize upd H7 q (.lst [.ref pr, .ref pw]) = H8 at s8 h8 ⊢
          refine ⟨d, l, q, ns, _, rfl, D7.same s8, qn.1, h8, by simp, by simp, fun x H9 hx k9 D9 => ?_⟩
          have r9 := k9 _ _ prn.1 (s8 _ _ r7)
          have w9 := k9 _ _ pwn.1 (s8 _ _ w7)
          have K9 : Keep d H7 H9 := s8.keep.trans k9
          have t9 := D7.tups K9
          have h9 := t9 _ _ h7
          have kA := keepAll.trans K9
          have len3 : w0.length ≤ 3 := by omega
          simp only [List.mem_cons, List.not_mem_nil, or_false] at hx
          rcases hx with rfl | rfl
          · refine ⟨.inl ⟨rfl, _, SqL.of r9⟩, _, rfl, pr, rs, _, rfl, rfl, r9, ?_, ?_, D9.upd2 prn.1 prn.2, ⟨_, _, _, rfl⟩, R ++ [w0], W, _, us, upd_same, ?_, ?_, ?_, ?_, b2', ?_, ?_, ?_⟩
            · have := d1.length
              rw [List.length_map] at this
              exact small1000 (by omega)
            · intro b o nb e
              rw [upd_ne (ne_of_none e hpr)]; exact kA b o nb e
            · rw [upd_ne wr]; exact w9
            · have tp : Tups H9 (upd H9 pr (.lst (rs ++ [V.ref tq]))) := tups_upd fun xs e => by rw [r9] at e; cases e
              rw [List.map_append]
              exact ((d1.mono t7).mono t9 |>.mono tp).snoc (.of_word (tp _ _ h9))
            · have tp : Tups H9 (upd H9 pr (.lst (rs ++ [V.ref tq]))) := tups_upd fun xs e => by rw [r9] at e; cases e
              exact ((d2.mono t7).mono t9).mono tp
            · intro u hu
              rcases List.mem_append.mp hu with z | z
              · exact b1 u z
              · simp at z; subst z; exact wb
            · intro u hu
              rcases List.mem_append.mp hu with z | z
              · exact ds u z
              · simp at z; subst z; exact new2
            · intro u hu
              simp only [List.mem_append, List.mem_singleton] at hu
              rcases hu with (z | z) | z
              · exact l3 u (by simp [z])
              · subst z; exact len3
              · exact l3 u (by simp [z])
            · rw [List.length_append, List.length_singleton]; omega
          · refine ⟨.inl ⟨rfl, _, SqL.of w9⟩, _, rfl, pw, us, _, rfl, rfl, w9, ?_, ?_, D9.upd2 pwn.1 pwn.2, ⟨_, _, _, rfl⟩, R, W ++ [w0], rs, _, ?_, upd_same, ?_, ?_, b1, ?_, ?_, ?_, ?_⟩
            · have := d2.length
              rw [List.length_map] at this
              exact small1000 (by omega)
            · intro b o nb e
              rw [upd_ne (ne_of_none e hpw0)]; exact kA b o nb e
            · rw [upd_ne (Ne.symm wr)]; exact r9
            · have tp : Tups H9 (upd H9 pw (.lst (us ++ [V.ref tq]))) := tups_upd fun xs e => by rw [w9] at e; cases e
              exact ((d1.mono t7).mono t9).mono tp
            · have tp : Tups H9 (upd H9 pw (.lst (us ++ [V.ref tq]))) := tups_upd fun xs e => by rw [w9] at e; cases e
              rw [List.map_append]
              exact ((d2.mono t7).mono t9 |>.mono tp).snoc (.of_word (tp _ _ h9))
            · intro u hu
              rcases List.mem_append.mp hu with z | z
              · exact b2' u z
              · simp at z; subst z; exact wb
            · intro u hu z
              rcases List.mem_append.mp z with z | z
              · exact ds u hu z
              · simp at z; subst z; exact new1 hu
            · intro u hu
              simp only [List.mem_append, List.mem_singleton] at hu
              rcases hu with z | z | z
              · exact l3 u (by simp [z])
              · exact l3 u (by simp [z])
              · subst z; exact len3
            · rw [List.length_append, List.length_singleton]; omega
        · exact ⟨keepAll, D7, ⟨_, _, _, rfl⟩, R, W, rs, us, r7, w7, d1.mono t7, d2.mono t7, b1, b2', ds, l3, by omega⟩
      · exact ⟨keepAll, D7, ⟨_, _, _, rfl⟩, R, W, rs, us, r7, w7, d1.mono t7, d2.mono t7, b1, b2', ds, l3, by omega⟩
  · obtain ⟨K4, D4, ⟨g4, g5, g6, rfl⟩, R, W, rs, us, e1, e2, d1, d2, b1, b2, ds, l3, cnt⟩ := h
    refine ⟨_, rfl, pr, _, rfl, .inl ⟨SqL.of e1, fun tr htr => ⟨_, rfl, pw, _, rfl, .inl ⟨SqL.of (by rw [upd_ne (ne_of_none e2 htr)]; exact e2), fun tw htw => ⟨by show 2 ≤ sizeLine; decide, fun q hq => ?_⟩⟩⟩⟩⟩
    have s1 : Same H' (upd (upd (upd H' tr (.tup rs)) tw (.tup us)) q (.tup [.ref tr, .ref tw])) := ((Same.upd htr).trans (Same.upd htw)).trans (Same.upd hq)
    have tp := same_tp s1
    refine k _ _ R W (K4.trans (Same.keep s1)) (D4.same s1) (.tup upd_same (.cons (.tup ?_ (d1.mono tp)) (.cons (.tup ?_ (d2.mono tp)) .nil))) b1 b2 ds l3 (by omega)
    · have : upd (upd H' tr (.tup rs)) tw (.tup us) tr = some (.tup rs) := by rw [upd_ne (fun z => by rw [← z, upd_same] at htw; cases htw), upd_same]
      rw [upd_ne (ne_of_none this hq)]
      exact this
    · have : upd (upd H' tr (.tup rs)) tw (.tup us) tw = some (.tup us) := upd_same
      rw [upd_ne (ne_of_none this hq)]
      exact this
end
end Toy

set_option Elab.async false
set_option linter.all false
set_option maxRecDepth 100000
set_option maxHeartbeats 4000000
namespace Toy
open PySem L2
/-- the words given, as a dict -/
def GvD (H : Hp) (d : Addr) (k : Lk) (ws : List (List Nat)) : Prop := H d = some (.dT (ws.map (gv k)))
def pairD (p : List Nat × List Nat) : Da := .tup [wd p.1, wd p.2]
def isClash (k : Lk) (ws R W : List (List Nat)) (p : List Nat × List Nat) : Prop := p.1 ∈ R ∧ p.2 ∈ W ∧ p.1 ∈ ws ∧ p.2 ∈ ws ∧ rwN k p.1 = rwN k p.2
def spClashes : Sp := fun vs H Q _ => ∃ d vr vw k ws R W, vs = [.ref d, vr, vw] ∧ GvD H d k ws ∧ DV H vr (.tup (R.map wd)) ∧ DV H vw (.tup (W.map wd)) ∧ R.length ≤ 25 ∧ W.length ≤ 25 ∧
  ∀ (p : Addr) (H' : Hp) (us : List V) (ps : List (List Nat × List Nat)), H p = none → Same H H' → H' p = some (.lst us) → DVs H' us (ps.map pairD) → (∀ x, x ∈ ps ↔ isClash k ws R W x) → ps.length ≤ 625 → Q (.ref p) H'
section
variable {P : Program} {w : World} {K : PySem.W.Frag} {mg : Str → Option Value} {base : Heap} {CR : Addr}
abbrev s_l_clashes : Stmt := top 27
theorem sc_l_clashes : FnScope ["given", "right", "wrong", "found", "one", "other"] ["given", "right", "wrong"] (defScope s_l_clashes) := ⟨rfl, rfl, rfl, by decide +kernel, rfl, by decide +kernel, by decide +kernel⟩

theorem ok_clashes {f : Addr} {fd : FuncData} (F : Fun K "_law_clashes" "_law_clashes" s_l_clashes f fd) (T : Txt K mg CR) : FnOk P w K mg base CX0 1 f fd ["given", "right", "wrong"] spClashes := by
  refine F.ok sc_l_clashes (fun vs H Q E h => ?_) (fun cdv A outer s H vs Q E hr h => ?_)
  · obtain ⟨d, vr, vw, k, ws, R, W, rfl, _⟩ := h
    rfl
  obtain ⟨d, vr, vw, lk, ws, R, W, rfl, hG, hR, hW, lR, lW, k⟩ := h
  obtain ⟨cr, rs, rfl, hcr, hrs⟩ := hR.inv
  obtain ⟨cw, us, rfl, hcw, hws⟩ := hW.inv
  refine ⟨_, (pss_cons (ps_set (i := 3) sc_l_clashes.nd rfl (Or.inl rfl) (pe_lst pa_nil))
    (pss_cons (ps_for PassesOwn.never rfl (pi_tup (pv 1)) (pg_name (i := 4) sc_l_clashes.nd rfl (Or.inr rfl)) (pss_one (ps_if (pt_cmp (pc_din (hu_b hr) (pv 4) (pv 0)) rfl) (pss_one (ps_expr (pe_bm PySem.F.plainAttrs_list PySem.F.slot_list_extend PySem.F.type_list_extend mt_extend (pv 3) (pa_cons (pe_lc (own := [("other", 5)]) (g := gName 5) (by rfl) sc_l_clashes.nd (pi_tup (pv 2)) (blkOk_by (own := [("other", 5)]) (N := ["given", "right", "wrong", "found", "one", "other"]) (sc := defScope s_l_clashes) (by decide +kernel)) (fun _ _ _ _ _ => pg_name (i := 5) sc_l_clashes.nd rfl (Or.inl rfl)) (fun _ _ _ _ _ => pts_one (PW.pt (pw_and (pt_cmp (pc_din (hu_b hr) (pv 5) (pv 0)) rfl) (pw_and1 (pt_cmpR op_eq (pe_dget (hu_b hr) (pv 0) (pv 5) (fun _ _ => rfl)) (pe_dget (hu_b hr) (pv 0) (pv 4) (fun _ _ => rfl)) (nomark _)))))) (fun _ _ _ _ _ => (pe_tup (pa_cons (pv 4) (pa_cons (pv 5) pa_nil))))) pa_nil)))) pss_nil)))
    (pss_one (ps_ret (pv 3))))), ?_⟩
  refine ⟨by show 0 ≤ sizeLine; decide, fun D hD => ?_⟩
  have hrl := hrs.length
  have hwl := hws.length
  rw [List.length_map] at hrl hwl
  refine ⟨_, rfl, cr, rfl, ⟨_, SqT.of (by rw [upd_ne (ne_of_none hcr hD)]; exact hcr)⟩, for_tup (K := K) (a := cr) (xs := rs) (fun i σ H' => Same H H' ∧ (∃ g4 g5, σ = [some (.ref d), some (.ref cr), some (.ref cw), some (.ref D), g4, g5]) ∧ ∃ ts ps, H' D = some (.lst ts) ∧ DVs H' ts (ps.map pairD) ∧ ps.length ≤ i * 25 ∧ ∀ x, x ∈ ps ↔ isClash lk ws (R.take i) W x)
    ⟨Same.upd hD, ⟨_, _, rfl⟩, [], [], upd_same, .nil, by simp, fun x => by simp [isClash]⟩ (fun i σ H' _ h => SqT.of (h.1 _ _ hcr)) (fun i x σ H' hx h => ?_) (fun σ H' h => ?_)⟩
  · obtain ⟨s1, ⟨g4, g5, rfl⟩, ts, ps, e1, d1, l1, m1⟩ := h
    obtain ⟨q, hq, dv⟩ := hrs.get hx
    rw [List.getElem?_map] at hq
    obtain ⟨one, ho, rfl⟩ := Option.map_eq_some_iff.mp hq
    obtain ⟨po, rfl, hpo⟩ := (dv.mono (same_tp s1)).word
    have kx : H' po = some (.tup ((ky one).map kV)) := by rw [ky_vs]; exact hpo
    have gx := DGet.t (s1 _ _ hG) kx
    have tk : R.take (i + 1) = R.take i ++ [one] := by rw [List.take_succ, ho]; rfl
    refine ⟨_, rfl, _, rfl, d, _, rfl, gx, _, rfl, ?_⟩
    by_cases xw : one ∈ ws
    · rw [val_given xw] at gx ⊢
      refine ifT (by simp) ?_
      refine ⟨_, rfl, .inl ⟨rfl, _, SqL.of e1⟩, _, rfl, cw, rfl, ⟨_, SqT.of (s1 _ _ hcw)⟩, fun D2 hD2 => ?_⟩
      refine lc_tup (K := K) (a := cw) (xs := us) (fun j H2 => Same H' H2 ∧ ∃ us2 qs, H2 D2 = some (.lst us2) ∧ DVs H2 us2 (qs.map pairD) ∧ qs.length ≤ j ∧ ∀ x, x ∈ qs ↔ x.1 = one ∧ x.2 ∈ W.take j ∧ x.2 ∈ ws ∧ rwN lk one = rwN lk x.2)
        ⟨Same.upd hD2, [], [], upd_same, .nil, Nat.le_refl _, fun x => by simp⟩ (fun j H2 _ h => SqT.of (h.1 _ _ (s1 _ _ hcw))) (fun j x H2 hx2 h => ?_) (fun H2 h => ?_)
      · obtain ⟨s2, us2, qs, e2, d2, l2, m2⟩ := h
        obtain ⟨q2, hq2, dv2⟩ := hws.get hx2
        rw [List.getElem?_map] at hq2
        obtain ⟨oth, ho2, rfl⟩ := Option.map_eq_some_iff.mp hq2
        obtain ⟨p2, rfl, hp2⟩ := (dv2.mono (same_tp (s1.trans s2))).word
        have kx2 : H2 p2 = some (.tup ((ky oth).map kV)) := by rw [ky_vs]; exact hp2
        have gx2 := DGet.t (s2 _ _ (s1 _ _ hG)) kx2
        have gx3 := DGet.t (s2 _ _ (s1 _ _ hG)) (s2 _ _ kx)
        rw [val_given xw] at gx3
        have tk2 : W.take (j + 1) = W.take j ++ [oth] := by rw [List.take_succ, ho2]; rfl
        refine ⟨rfl, _, rfl, _, rfl, d, _, rfl, gx2, ?_⟩
        by_cases ow : oth ∈ ws
        · rw [val_given ow] at gx2 ⊢
          refine ⟨_, rfl, ifT (by simp) ⟨_, rfl, _, rfl, d, _, rfl, gx2, _, rfl, _, rfl, d, _, rfl, gx3, rfl, _, rfl, ?_⟩⟩
          refine ite2 (fun c => ?_) (fun c => ?_)
          · have eq : rwN lk one = rwN lk oth := by
              have : V.int ((rwN lk oth : Nat) : Int) = V.int ((rwN lk one : Nat) : Int) := by simpa using c
              injection this with this; omega
            refine ⟨_, rfl, _, rfl, by show 2 ≤ sizeLine; decide, fun t ht => ⟨us2, ?_, ?_, ?_⟩⟩
            · rw [upd_ne (ne_of_none e2 ht)]; exact e2
            · have := d2.length
              have := (List.getElem?_eq_some_iff.mp hx2).1
              rw [List.length_map] at *
              exact small1000 (by omega)
            · have tp : Tups H2 (upd (upd H2 t (.tup [.ref po, .ref p2])) D2 (.lst (us2 ++ [V.ref t]))) :=
                (tups_new ht).trans (tups_upd fun xs e => by rw [upd_ne (ne_of_none e2 ht), e2] at e; cases e)
              have tD : t ≠ D2 := fun z => by rw [z, e2] at ht; cases ht
              refine ⟨fun b o e => ?_, _, qs ++ [(one, oth)], upd_same, ?_, ?_, fun x => ?_⟩
              · rw [upd_ne (ne_of_none e hD2), upd_ne (ne_of_none (s2 _ _ e) ht)]
                exact s2 _ _ e
              · rw [List.map_append]
                refine (d2.mono tp).snoc (.tup (by rw [upd_ne tD, upd_same]) (.cons ?_ (.cons ?_ .nil)))
                · exact .of_word (tp _ _ (s2 _ _ hpo))
                · exact .of_word (tp _ _ hp2)
              · rw [List.length_append, List.length_singleton]; omega
              · rw [List.mem_append, m2 x, tk2]
                simp only [List.mem_append, List.mem_singleton]
                constructor
                · rintro (h | rfl)
                  · exact ⟨h.1, .inl h.2.1, h.2.2⟩
                  · exact ⟨rfl, .inr rfl, ow, eq⟩
                · rintro ⟨h1, h2 | h2, h3, h4⟩
                  · exact .inl ⟨h1, h2, h3, h4⟩
                  · exact .inr (Prod.ext h1 h2)
          · refine ⟨s2, us2, qs, e2, d2, by omega, fun x => ?_⟩
            rw [m2 x, tk2]
            simp only [List.mem_append, List.mem_singleton]
            refine ⟨fun h => ⟨h.1, .inl h.2.1, h.2.2⟩, fun h => ⟨h.1, h.2.1.resolve_right fun z => ?_, h.2.2⟩⟩
            refine absurd ?_ c
            rw [z] at h
            rw [h.2.2.2]
            simp
        · rw [val_given_no ow]
          refine ⟨_, rfl, ifF (by simp) (ifF (by simp) ⟨s2, us2, qs, e2, d2, by omega, fun x => ?_⟩)⟩
          rw [m2 x, tk2]
          simp only [List.mem_append, List.mem_singleton]
          exact ⟨fun h => ⟨h.1, .inl h.2.1, h.2.2⟩, fun h => ⟨h.1, h.2.1.resolve_right fun z => ow (z ▸ h.2.2.1), h.2.2⟩⟩
      · obtain ⟨s2, us2, qs, e2, d2, l2, m2⟩ := h
        rw [hwl, List.take_length] at m2
        have hne : D ≠ D2 := fun z => by rw [← z, e1] at hD2; cases hD2
        have e3 := s2 _ _ e1
        have tp : Tups H2 (upd H2 D (.lst (ts ++ us2))) := tups_upd fun xs e => by rw [e3] at e; cases e
        have tl := d1.length
        have ul := d2.length
        rw [List.length_map] at tl ul
        have hi : i < rs.length := (List.getElem?_eq_some_iff.mp hx).1
        refine ⟨D, D2, ts, us2, rfl, rfl, e3, e2, ?_, ?_, ⟨_, _, rfl⟩, ts ++ us2, ps ++ qs, upd_same, ?_, ?_, ?_⟩
        · exact Nat.le_of_lt (small1000 (by omega))
        · intro b o e
          rw [upd_ne (ne_of_none e hD)]
          exact s2 _ _ (s1 _ _ e)
        · rw [List.map_append]
          exact ((d1.mono (same_tp s2)).mono tp).append (d2.mono tp)
        · rw [List.length_append]; omega
        · intro x
          rw [List.mem_append, m1 x, m2 x, tk]
          unfold isClash
          simp only [List.mem_append, List.mem_singleton]
          constructor
          · rintro (h | h)
            · exact ⟨.inl h.1, h.2⟩
            · exact ⟨.inr h.1, h.2.1, h.1 ▸ xw, h.2.2.1, h.1 ▸ h.2.2.2⟩
          · rintro ⟨h | h, h2, h3, h4, h5⟩
            · exact .inl ⟨h, h2, h3, h4, h5⟩
            · exact .inr ⟨h, h2, h4, h ▸ h5⟩
    · rw [val_given_no xw]
      refine ifF (by simp) ?_
      refine ⟨s1, ⟨_, _, rfl⟩, ts, ps, e1, d1, by omega, fun x => ?_⟩
      rw [m1 x, tk]
      unfold isClash
      simp only [List.mem_append, List.mem_singleton]
      exact ⟨fun h => ⟨.inl h.1, h.2⟩, fun h => ⟨h.1.resolve_right fun z => xw (z ▸ h.2.2.1), h.2⟩⟩
  · obtain ⟨s1, ⟨g4, g5, rfl⟩, ts, ps, e1, d1, l1, m1⟩ := h
    rw [hrl, List.take_length] at m1
    exact ⟨_, rfl, k D H' ts ps hD s1 e1 d1 m1 (by omega)⟩
end
end Toy

set_option Elab.async false
set_option linter.all false
set_option maxRecDepth 100000
set_option maxHeartbeats 4000000
namespace Toy
open PySem L2
theorem hw : hashT [] = 5740354900026072187 := by
  unfold hashT Builtin.Tuple.tupleHashOf reduceHash hashInt rawHash
  simp
theorem hw0 : hashT [0] = -8753497827991233192 := by
  unfold hashT Builtin.Tuple.tupleHashOf reduceHash hashInt rawHash
  simp
theorem hw1 : hashT [1] = -6644214454873602895 := by
  unfold hashT Builtin.Tuple.tupleHashOf reduceHash hashInt rawHash
  simp
theorem hw00 : hashT [0, 0] = -8458139203682520985 := by
  unfold hashT Builtin.Tuple.tupleHashOf reduceHash hashInt rawHash
  simp
theorem hw01 : hashT [0, 1] = -1950498447580522560 := by
  unfold hashT Builtin.Tuple.tupleHashOf reduceHash hashInt rawHash
  simp
theorem hw10 : hashT [1, 0] = -5164621852614943976 := by
  unfold hashT Builtin.Tuple.tupleHashOf reduceHash hashInt rawHash
  simp
theorem hw11 : hashT [1, 1] = 8389048192121911274 := by
  unfold hashT Builtin.Tuple.tupleHashOf reduceHash hashInt rawHash
  simp
theorem hw000 : hashT [0, 0, 0] = 3010437511937009226 := by
  unfold hashT Builtin.Tuple.tupleHashOf reduceHash hashInt rawHash
  simp
theorem hw001 : hashT [0, 0, 1] = -1882636517035687140 := by
  unfold hashT Builtin.Tuple.tupleHashOf reduceHash hashInt rawHash
  simp
theorem hw010 : hashT [0, 1, 0] = 7619408953831620358 := by
  unfold hashT Builtin.Tuple.tupleHashOf reduceHash hashInt rawHash
  simp
theorem hw011 : hashT [0, 1, 1] = -4319694363775932833 := by
  unfold hashT Builtin.Tuple.tupleHashOf reduceHash hashInt rawHash
  simp
theorem hw100 : hashT [1, 0, 0] = 7839147235533974352 := by
  unfold hashT Builtin.Tuple.tupleHashOf reduceHash hashInt rawHash
  simp
theorem hw101 : hashT [1, 0, 1] = 2946073206561277986 := by
  unfold hashT Builtin.Tuple.tupleHashOf reduceHash hashInt rawHash
  simp
theorem hw110 : hashT [1, 1, 0] = -757448186211189212 := by
  unfold hashT Builtin.Tuple.tupleHashOf reduceHash hashInt rawHash
  simp
theorem hw111 : hashT [1, 1, 1] = 5750192569890809213 := by
  unfold hashT Builtin.Tuple.tupleHashOf reduceHash hashInt rawHash
  simp
def tabW : List Nat → Int
  | [] => 5740354900026072187
  | [0] => -8753497827991233192
  | [1] => -6644214454873602895
  | [0, 0] => -8458139203682520985
  | [0, 1] => -1950498447580522560
  | [1, 0] => -5164621852614943976
  | [1, 1] => 8389048192121911274
  | [0, 0, 0] => 3010437511937009226
  | [0, 0, 1] => -1882636517035687140
  | [0, 1, 0] => 7619408953831620358
  | [0, 1, 1] => -4319694363775932833
  | [1, 0, 0] => 7839147235533974352
  | [1, 0, 1] => 2946073206561277986
  | [1, 1, 0] => -757448186211189212
  | [1, 1, 1] => 5750192569890809213
  | _ => 0
def fif : List (List Nat) := [[], [0], [1], [0, 0], [0, 1], [1, 0], [1, 1], [0, 0, 0], [0, 0, 1], [0, 1, 0], [0, 1, 1], [1, 0, 0], [1, 0, 1], [1, 1, 0], [1, 1, 1]]
abbrev wI (w : List Nat) : List Int := w.map fun c : Nat => (c : Int)
theorem tabW_is : ∀ p ∈ fif, hashT (wI p) = tabW p := by
  intro p hp
  simp only [fif, List.mem_cons, List.not_mem_nil, or_false] at hp
  rcases hp with rfl | rfl | rfl | rfl | rfl | rfl | rfl | rfl | rfl | rfl | rfl | rfl | rfl | rfl | rfl
  · simpa [tabW] using hw
  · simpa [tabW] using hw0
  · simpa [tabW] using hw1
  · simpa [tabW] using hw00
  · simpa [tabW] using hw01
  · simpa [tabW] using hw10
  · simpa [tabW] using hw11
  · simpa [tabW] using hw000
  · simpa [tabW] using hw001
  · simpa [tabW] using hw010
  · simpa [tabW] using hw011
  · simpa [tabW] using hw100
  · simpa [tabW] using hw101
  · simpa [tabW] using hw110
  · simpa [tabW] using hw111
theorem tabW_inj : ∀ p ∈ fif, ∀ q ∈ fif, tabW p = tabW q → p = q := by decide
theorem word_hash {p q : List Nat} (hp : p ∈ fif) (hq : q ∈ fif) (e : hashT (wI p) = hashT (wI q)) : p = q := by
  rw [tabW_is p hp, tabW_is q hq] at e
  exact tabW_inj p hp q hq e
theorem two {c : Nat} (h : c < 2) : c = 0 ∨ c = 1 := by omega
theorem fif_of {w : List Nat} (l : w.length ≤ 3) (b : ∀ c ∈ w, c < 2) : w ∈ fif := by
  match w, l, b with
  | [], _, _ => simp [fif]
  | [a], _, b =>
    have ha := two (b a (by simp))
    rcases ha with rfl | rfl <;> simp [fif]
  | [a, c], _, b =>
    have ha := two (b a (by simp))
    have hc := two (b c (by simp))
    rcases ha with rfl | rfl <;> rcases hc with rfl | rfl <;> simp [fif]
  | [a, c, e], _, b =>
    have ha := two (b a (by simp))
    have hc := two (b c (by simp))
    have he := two (b e (by simp))
    rcases ha with rfl | rfl <;> rcases hc with rfl | rfl <;> rcases he with rfl | rfl <;> simp [fif]
  | a :: c :: e :: f :: r, l, _ => simp at l
theorem gv_hash {k : Lk} {ws : List (List Nat)} (nd : ws.Nodup) (l3 : ∀ w ∈ ws, w.length ≤ 3) (bi : Bin ws) :
    (ws.map (gv k)).map (·.1) = (ws.map wI).map (fun n => n.map Sum.inl) ∧ ((ws.map wI).map hashT).Nodup := by
  refine ⟨?_, ?_⟩
  · rw [List.map_map, List.map_map]
    refine List.map_congr_left fun w _ => ?_
    show ky w = (wI w).map Sum.inl
    unfold wI
    rw [List.map_map]
    rfl
  · exact List.pairwise_map.mpr (List.pairwise_map.mpr (nd.imp_of_mem fun {p q} hp hq ne e => ne (word_hash (fif_of (l3 p hp) (bi p hp)) (fif_of (l3 q hq) (bi q hq)) e)))
/-- the trees of the law -/
inductive IsT (R W : List (List Nat)) (m : Nat) : List (List Nat) → List (List Nat) → Lk → Tr → Prop where
  | bad {rest ws : List (List Nat)} {k : Lk} {a b : List Nat} : isClash k ws R W (a, b) → IsT R W m rest ws k (.bad a b)
  | fits {ws : List (List Nat)} {k : Lk} : (∀ x, ¬ isClash k ws R W x) → IsT R W m [] ws k .fits
  | forced {w : List Nat} {rest ws : List (List Nat)} {k : Lk} {s : Nat} {t : Tr} : (∀ x, ¬ isClash k ws R W x) → k (rwN k w.dropLast) (lst w) = some s → IsT R W m rest (ws ++ [w]) (ext k w s) t → IsT R W m (w :: rest) ws k t
  | try_ {w : List Nat} {rest ws : List (List Nat)} {k : Lk} {ts : List Tr} : (∀ x, ¬ isClash k ws R W x) → k (rwN k w.dropLast) (lst w) = none → ts.length = min (usd k ws + 1) m → (∀ i t, ts[i]? = some t → IsT R W m rest (ws ++ [w]) (ext k w i) t) → IsT R W m (w :: rest) ws k (.try_ ts)
end Toy

set_option Elab.async false
set_option linter.all false
set_option maxRecDepth 100000
set_option maxHeartbeats 4000000
namespace Toy
open PySem L2
/-! ### the plain law -/
mutual
def hasFit : Tr → Bool
  | .fits => true
  | .try_ ts => hasFits ts
  | .non => false
  | .bad1 _ => false
  | .bad _ _ => false
def hasFits : List Tr → Bool
  | [] => false
  | t :: r => hasFit t || hasFits r
end
theorem hasFits_iff : ∀ ts : List Tr, hasFits ts = true ↔ ∃ t ∈ ts, hasFit t = true
  | [] => by simp [hasFits]
  | t :: r => by rw [hasFits, Bool.or_eq_true, hasFits_iff r]; simp
theorem has_try (ts : List Tr) : hasFit (.try_ ts) = hasFits ts := by rw [hasFit]
/-- the trees that the law takes for wrong ones -/
inductive Wr : Tr → Tr → Prop
  | b1 {a b : List Nat} : Wr (.bad a b) (.try_ [.bad a b])
  | b2 {a b : List Nat} : Wr (.bad a b) (.bad b a)
  | b3 {a b : List Nat} : Wr (.bad a b) (.bad1 a)
  | b4 {a b : List Nat} : Wr (.bad a b) .non
  | b5 {a b : List Nat} : Wr (.bad a b) (.try_ [])
  | t1 {ts : List Tr} : Wr (.try_ ts) (.try_ ts.dropLast)
  | t2 {ts : List Tr} : Wr (.try_ ts) (.try_ (ts ++ ts.take 1))
  | t3 {ts : List Tr} {i : Nat} {t t' : Tr} : ts[i]? = some t → Wr t t' → Wr (.try_ ts) (.try_ (ts.take i ++ [t'] ++ ts.drop (i + 1)))
  | t4 {ts : List Tr} : Wr (.try_ ts) (.bad [] [])
  | t5 {ts : List Tr} : Wr (.try_ ts) .non
def smp (R W : List (List Nat)) : List (List Nat × Nat) := R.map (fun w => (w, 1)) ++ W.map fun w => (w, 0)
theorem smp_mem {R W : List (List Nat)} {x : List Nat × Nat} : x ∈ smp R W ↔ (x.1 ∈ R ∧ x.2 = 1) ∨ (x.1 ∈ W ∧ x.2 = 0) := by
  obtain ⟨w, l⟩ := x
  unfold smp
  simp only [List.mem_append, List.mem_map, Prod.mk.injEq]
  constructor
  · rintro (⟨a, h, rfl, rfl⟩ | ⟨a, h, rfl, rfl⟩)
    · exact .inl ⟨h, rfl⟩
    · exact .inr ⟨h, rfl⟩
  · rintro (⟨h, e⟩ | ⟨h, e⟩)
    · exact .inl ⟨w, h, rfl, e.symm⟩
    · exact .inr ⟨w, h, rfl, e.symm⟩
theorem fold_max : ∀ (l : List Nat) (a : Nat), a ≤ l.foldl max a ∧ ∀ x ∈ l, x ≤ l.foldl max a
  | [], a => ⟨Nat.le_refl _, fun x h => nomatch h⟩
  | y :: l, a => by
    obtain ⟨h1, h2⟩ := fold_max l (max a y)
    refine ⟨Nat.le_trans (Nat.le_max_left _ _) h1, fun x hx => ?_⟩
    rcases List.mem_cons.mp hx with rfl | hx
    · exact Nat.le_trans (Nat.le_max_right _ _) h1
    · exact h2 x hx
theorem usd_mem {k : Lk} {ws : List (List Nat)} {w : List Nat} (h : w ∈ ws) : rwN k w < usd k ws :=
  (fold_max (ws.map fun w => rwN k w + 1) 0).2 (rwN k w + 1) (List.mem_map.mpr ⟨w, h, rfl⟩)
structure Iv (R W : List (List Nat)) (full : List (List Nat)) (m : Nat) (ws rest : List (List Nat)) (k : Lk) : Prop where
  ef : full = ws ++ rest
  pre : Pre full
  nil : [] ∈ ws
  all : ∀ w ∈ ws, (run k 0 w).isSome = true
  lt : ∀ r c s, k r c = some s → s < usd k ws ∧ r < usd k ws
  um : usd k ws ≤ m
  bin : Bin full
  beg : ∀ w, w ∈ full ↔ Beg (R ++ W) w
theorem Iv.ne {R W full : List (List Nat)} {m : Nat} {ws rest : List (List Nat)} {w : List Nat} {k : Lk} (h : Iv R W full m ws (w :: rest) k) : w ≠ [] := fun z => by
  have := h.pre.fresh h.ef
  rw [z] at this
  exact this h.nil
theorem Iv.forced {R W full : List (List Nat)} {m : Nat} {ws rest : List (List Nat)} {w : List Nat} {k : Lk} (h : Iv R W full m ws (w :: rest) k) : forcedN k w = k (rwN k w.dropLast) (lst w) := by
  unfold forcedN
  rw [if_neg h.ne]
theorem Iv.ext {R W full : List (List Nat)} {m : Nat} {ws rest : List (List Nat)} {w : List Nat} {k : Lk} (h : Iv R W full m ws (w :: rest) k) (s : Nat) : ext k w s = k.put (rwN k w.dropLast) (lst w) s := by
  unfold Toy.ext
  rw [if_neg h.ne]
theorem Iv.up {R W full : List (List Nat)} {m : Nat} {ws rest : List (List Nat)} {w : List Nat} {k : Lk} (h : Iv R W full m ws (w :: rest) k) : 0 < usd k ws := by
  have := usd_mem (k := k) h.nil
  omega
theorem Iv.row {R W full : List (List Nat)} {m : Nat} {ws rest : List (List Nat)} {w : List Nat} {k : Lk} (h : Iv R W full m ws (w :: rest) k) : rwN k w.dropLast < usd k ws :=
  usd_mem ((h.pre.pre _ _ _ h.ef).resolve_left h.ne)
theorem Iv.lst {R W full : List (List Nat)} {m : Nat} {ws rest : List (List Nat)} {w : List Nat} {k : Lk} (h : Iv R W full m ws (w :: rest) k) : lst w < 2 := by
  refine h.bin w (by rw [h.ef]; simp) _ ?_
  have := word_split h.ne
  rw [this]
  simp [Toy.lst]
theorem Iv.step {R W full : List (List Nat)} {m : Nat} {ws rest : List (List Nat)} {w : List Nat} {k : Lk} {s : Nat} (h : Iv R W full m ws (w :: rest) k) (hs : s < m) (hk : k (rwN k w.dropLast) (Toy.lst w) = none ∨ k (rwN k w.dropLast) (Toy.lst w) = some s) :
    Step k (Toy.ext k w s) ws w s ∧ Iv R W full m (ws ++ [w]) rest (Toy.ext k w s) := by
  have st : Step k (Toy.ext k w s) ws w s := h.pre.step h.ef (by rw [h.forced]; exact hk)
  have rn := st.run h.all
  have rs : rwN (Toy.ext k w s) w = s := by unfold rwN; rw [rn]; rfl
  have us := usd_snoc (w := w) st.le h.all
  rw [rs] at us
  refine ⟨st, by rw [h.ef]; simp, h.pre, by simp [h.nil], fun u hu => ?_, fun r c t e => ?_, by rw [us]; have := h.um; omega, h.bin, h.beg⟩
  · rcases List.mem_append.mp hu with z | z
    · obtain ⟨x, hx⟩ := Option.isSome_iff_exists.mp (h.all u z)
      rw [run_le st.le _ _ _ hx]; rfl
    · simp at z; subst z; rw [rn]; rfl
  · rw [us]
    rw [h.ext s] at e
    unfold Lk.put at e
    by_cases q : r = rwN k w.dropLast ∧ c = Toy.lst w
    · rw [if_pos q] at e
      have := Option.some.inj e
      have := h.row
      have := q.1
      omega
    · rw [if_neg q] at e
      have := h.lt r c t e
      omega
theorem clash_new {R W : List (List Nat)} {ws : List (List Nat)} {w : List Nat} {k k' : Lk} {s : Nat} (no : ∀ x, ¬ isClash k ws R W x) (all : ∀ u ∈ ws, (run k 0 u).isSome = true) (st : Step k k' ws w s) :
    (clash k' (ws ++ [w]) R W s).isSome = true ↔ ∃ x, isClash k' (ws ++ [w]) R W x := by
  have rs : rwN k' w = s := by unfold rwN; rw [st.run all]; rfl
  have fs : ∀ S : List (List Nat), (fstW k' (ws ++ [w]) S s).isSome = true ↔ ∃ a, a ∈ S ∧ a ∈ ws ++ [w] ∧ rwN k' a = s := fun S => by
    unfold fstW
    rw [List.find?_isSome]
    constructor
    · rintro ⟨a, h1, h2⟩
      rw [Bool.and_eq_true, decide_eq_true_eq, decide_eq_true_eq] at h2
      exact ⟨a, h2.1, h1, h2.2⟩
    · rintro ⟨a, h1, h2, h3⟩
      refine ⟨a, h2, ?_⟩
      rw [Bool.and_eq_true, decide_eq_true_eq, decide_eq_true_eq]
      exact ⟨h1, h3⟩
  have cs : (clash k' (ws ++ [w]) R W s).isSome = true ↔ (fstW k' (ws ++ [w]) R s).isSome = true ∧ (fstW k' (ws ++ [w]) W s).isSome = true := by
    unfold clash
    cases fstW k' (ws ++ [w]) R s <;> cases fstW k' (ws ++ [w]) W s <;> simp
  rw [cs, fs, fs]
  constructor
  · rintro ⟨⟨a, a1, a2, a3⟩, b, b1, b2, b3⟩
    exact ⟨(a, b), a1, b1, a2, b2, by show rwN k' a = rwN k' b; rw [a3, b3]⟩
  · rintro ⟨⟨a, b⟩, h1, h2, h3, h4, h5⟩
    have h1 : a ∈ R := h1
    have h2 : b ∈ W := h2
    have h3 : a ∈ ws ++ [w] := h3
    have h4 : b ∈ ws ++ [w] := h4
    have h5 : rwN k' a = rwN k' b := h5
    have es : rwN k' a = s := by
      rcases List.mem_append.mp h3 with z | z
      · rcases List.mem_append.mp h4 with y | y
        · refine absurd ?_ (no (a, b))
          refine ⟨h1, h2, z, y, ?_⟩
          show rwN k a = rwN k b
          rw [← rw_le st.le (all a z), ← rw_le st.le (all b y)]
          exact h5
        · rw [h5, List.mem_singleton.mp y]; exact rs
      · rw [List.mem_singleton.mp z]; exact rs
    exact ⟨⟨a, h1, h3, es⟩, b, h2, h4, by rw [← h5]; exact es⟩
/-- what is judged of a tree behind the words ws -/
def Nd (R W : List (List Nat)) (m : Nat) (rest ws : List (List Nat)) (k : Lk) (t : Tr) (b : Bool) : Prop :=
  ((∃ x, isClash k ws R W x) ∧ isBad k ws R W t = b) ∨ ((∀ x, ¬ isClash k ws R W x) ∧ acc R W m rest ws k t = b)
theorem nd_if {R W : List (List Nat)} {m : Nat} {ws rest : List (List Nat)} {w : List Nat} {k k' : Lk} {s : Nat} {t : Tr} {b : Bool} (no : ∀ x, ¬ isClash k ws R W x) (all : ∀ u ∈ ws, (run k 0 u).isSome = true) (st : Step k k' ws w s)
    (h : Nd R W m rest (ws ++ [w]) k' t b) : (if (clash k' (ws ++ [w]) R W s).isSome = true then isBad k' (ws ++ [w]) R W t else acc R W m rest (ws ++ [w]) k' t) = b := by
  have c := clash_new no all st
  rcases h with ⟨h1, h2⟩ | ⟨h1, h2⟩
  · rw [if_pos (c.mpr h1)]; exact h2
  · rw [if_neg (fun z => let ⟨x, hx⟩ := c.mp z; h1 x hx)]; exact h2
theorem clash_nofit {R W full : List (List Nat)} {m : Nat} {ws rest : List (List Nat)} {k : Lk} (h : Iv R W full m ws rest k) {x : List Nat × List Nat} (hx : isClash k ws R W x) : ¬ Fits m (smp R W) k := by
  rintro ⟨δ, f1, f2, f3⟩
  obtain ⟨a, b⟩ := x
  obtain ⟨h1, h2, h3, h4, h5⟩ := hx
  obtain ⟨u, hu⟩ := Option.isSome_iff_exists.mp (h.all a h3)
  obtain ⟨v, hv⟩ := Option.isSome_iff_exists.mp (h.all b h4)
  have : u = v := by
    have h5 : rwN k a = rwN k b := h5
    unfold rwN at h5
    rw [hu, hv] at h5
    exact h5
  subst this
  have : (1 : Nat) = 0 := f3 (a, 1) (smp_mem.mpr (.inl ⟨h1, rfl⟩)) (b, 0) (smp_mem.mpr (.inr ⟨h2, rfl⟩)) (by rw [runT_of f1 _ _ _ hu, runT_of f1 _ _ _ hv])
  exact absurd this (by decide)
/-- two rows changed for each other -/
def sw (o u x : Nat) : Nat := if x = o then u else if x = u then o else x
theorem sw_sw (o u x : Nat) : sw o u (sw o u x) = x := by
  unfold sw
  by_cases h1 : x = o
  · rw [if_pos h1]
    by_cases h2 : u = o
    · rw [if_pos h2]; omega
    · rw [if_neg h2, if_pos rfl]; omega
  · rw [if_neg h1]
    by_cases h2 : x = u
    · rw [if_pos h2, if_pos rfl]; omega
    · rw [if_neg h2, if_neg h1, if_neg h2]
theorem sw_lt {o u x m : Nat} (ho : o < m) (hu : u < m) (hx : x < m) : sw o u x < m := by unfold sw; split <;> (try split) <;> omega
theorem sw_id {o u x : Nat} (h1 : x < u) (h2 : u ≤ o) : sw o u x = x := by
  unfold sw
  rw [if_neg (by omega), if_neg (by omega)]
theorem runT_sw {δ : Nat → Nat → Nat} {o u : Nat} : ∀ (w : List Nat) (r : Nat), runT (fun r c => sw o u (δ (sw o u r) c)) (sw o u r) w = sw o u (runT δ r w)
  | [], r => rfl
  | c :: w, r => by
    rw [runT, runT]
    show runT _ (sw o u (δ (sw o u (sw o u r)) c)) w = _
    rw [sw_sw]
    exact runT_sw w (δ r c)
theorem fits_sw {m : Nat} {ss : List (List Nat × Nat)} {k : Lk} {r c o u : Nat} (lt : ∀ r c s, k r c = some s → s < u ∧ r < u) (hr : r < u) (uo : u ≤ o) (om : o < m) (h : Fits m ss (k.put r c o)) : Fits m ss (k.put r c u) := by
  obtain ⟨δ, f1, f2, f3⟩ := h
  have um : u < m := by omega
  refine ⟨fun r c => sw o u (δ (sw o u r) c), fun r' c' s e => ?_, fun r' c' hr' hc' => sw_lt om um (f2 _ _ (sw_lt om um hr') hc'), fun x hx y hy e => f3 x hx y hy ?_⟩
  · unfold Lk.put at e
    by_cases q : r' = r ∧ c' = c
    · rw [if_pos q] at e
      obtain ⟨rfl, rfl⟩ := q
      show sw o u (δ (sw o u r') c') = s
      rw [sw_id hr uo, f1 r' c' o (by unfold Lk.put; rw [if_pos ⟨rfl, rfl⟩])]
      unfold sw
      rw [if_pos rfl]
      exact Option.some.inj e
    · rw [if_neg q] at e
      obtain ⟨l1, l2⟩ := lt _ _ _ e
      show sw o u (δ (sw o u r') c') = s
      rw [sw_id l2 uo, f1 r' c' s (by unfold Lk.put; rw [if_neg q]; exact e), sw_id l1 uo]
  · have z : sw o u 0 = 0 := sw_id (by omega) uo
    have g : ∀ w, runT (fun r c => sw o u (δ (sw o u r) c)) 0 w = sw o u (runT δ 0 w) := fun w => by
      have := runT_sw (δ := δ) (o := o) (u := u) w 0
      rwa [z] at this
    rw [g, g] at e
    have := congrArg (sw o u) e
    rwa [sw_sw, sw_sw] at this
theorem fits_try {R W full : List (List Nat)} {m : Nat} {ws rest : List (List Nat)} {w : List Nat} {k : Lk} (h : Iv R W full m ws (w :: rest) k) (hk : k (rwN k w.dropLast) (lst w) = none) :
    Fits m (smp R W) k ↔ ∃ i, i < min (usd k ws + 1) m ∧ Fits m (smp R W) (ext k w i) := by
  constructor
  · intro f
    have := h.um
    have := h.row
    obtain ⟨o, om, fo⟩ := f.up (s := rwN k w.dropLast) (c := lst w) (by omega) h.lst
    by_cases c : o < usd k ws + 1
    · exact ⟨o, by omega, by rw [h.ext]; exact fo⟩
    · exact ⟨usd k ws, by omega, by rw [h.ext]; exact fits_sw h.lt h.row (by omega) om fo⟩
  · rintro ⟨i, hi, f⟩
    rw [h.ext] at f
    exact f.down (put_le (.inl hk))
theorem fits_forced {R W full : List (List Nat)} {m : Nat} {ws rest : List (List Nat)} {w : List Nat} {k : Lk} {s : Nat} (h : Iv R W full m ws (w :: rest) k) (hk : k (rwN k w.dropLast) (lst w) = some s) : ext k w s = k := by
  rw [h.ext]
  funext r c
  unfold Lk.put
  by_cases q : r = rwN k w.dropLast ∧ c = lst w
  · rw [if_pos q, q.1, q.2, hk]
  · rw [if_neg q]
/-- where no samples clash and all words have been given, a full watcher fits -/
theorem fits_end {R W full : List (List Nat)} {m : Nat} {ws : List (List Nat)} {k : Lk} (h : Iv R W full m ws [] k) (no : ∀ x, ¬ isClash k ws R W x) : Fits m (smp R W) k := by
  have ew : ws = full := by rw [h.ef, List.append_nil]
  have inw : ∀ x ∈ smp R W, x.1 ∈ ws := fun x hx => by
    rw [ew]
    refine (h.beg _).mpr (.inr ⟨x.1, ?_, List.prefix_refl _⟩)
    rcases smp_mem.mp hx with z | z
    · exact List.mem_append_left _ z.1
    · exact List.mem_append_right _ z.1
  have u0 : 0 < usd k ws := by have := usd_mem (k := k) h.nil; omega
  refine fits_all (by have := h.um; omega) (fun r c s e => by have := (h.lt r c s e).1; have := h.um; omega) (fun x hx => h.all _ (inw x hx)) (fun x hx y hy e => ?_)
  have er : rwN k x.1 = rwN k y.1 := by unfold rwN; rw [e]
  rcases smp_mem.mp hx with ⟨a1, a2⟩ | ⟨a1, a2⟩ <;> rcases smp_mem.mp hy with ⟨b1, b2⟩ | ⟨b1, b2⟩
  · rw [a2, b2]
  · exact absurd ⟨a1, b1, inw x hx, inw y hy, er⟩ (no (x.1, y.1))
  · exact absurd ⟨b1, a1, inw y hy, inw x hx, er.symm⟩ (no (y.1, x.1))
  · rw [a2, b2]
theorem min_lt {k : Lk} {ws : List (List Nat)} {m i : Nat} (h : i < min (usd k ws + 1) m) : i < m := by omega
/-- the law's tree tells whether a watcher fits -/
theorem tree_fits {R W full : List (List Nat)} {m : Nat} {rest ws : List (List Nat)} {k : Lk} {t : Tr} (h : IsT R W m rest ws k t) : Iv R W full m ws rest k → (hasFit t = true ↔ Fits m (smp R W) k) := by
  induction h with
  | bad c => exact fun v => ⟨fun z => by simp [hasFit] at z, fun z => absurd z (clash_nofit v c)⟩
  | fits no => exact fun v => ⟨fun _ => fits_end v no, fun _ => by simp [hasFit]⟩
  | forced no hk _ ih =>
    intro v
    have lt := (v.lt _ _ _ hk).1
    have := (v.step (by have := v.um; omega) (.inr hk)).2
    rw [ih this, fits_forced v hk]
  | @try_ w rest ws k ts no hk hl _ ih =>
    intro v
    rw [has_try, hasFits_iff, fits_try v hk]
    constructor
    · rintro ⟨t, ht, e⟩
      obtain ⟨i, hi, rfl⟩ := List.getElem_of_mem ht
      have hi2 : i < min (usd k ws + 1) m := by omega
      exact ⟨i, hi2, (ih i _ (List.getElem?_eq_getElem hi) (v.step (min_lt hi2) (.inl hk)).2).mp e⟩
    · rintro ⟨i, hi, f⟩
      have hi2 : i < ts.length := by omega
      exact ⟨ts[i], List.getElem_mem hi2, (ih i _ (List.getElem?_eq_getElem hi2) (v.step (min_lt hi) (.inl hk)).2).mpr f⟩
/-- where none fits, the law's tree is taken -/
theorem tree_taken {R W full : List (List Nat)} {m : Nat} {rest ws : List (List Nat)} {k : Lk} {t : Tr} (h : IsT R W m rest ws k t) : Iv R W full m ws rest k → hasFit t = false → Nd R W m rest ws k t true := by
  induction h with
  | bad c => exact fun v _ => .inl ⟨⟨_, c⟩, by unfold isBad; exact decide_eq_true c⟩
  | fits no => exact fun v z => by simp [hasFit] at z
  | @forced w rest ws k s t no hk _ ih =>
    intro v z
    have lt := (v.lt _ _ _ hk).1
    obtain ⟨st, v2⟩ := v.step (by have := v.um; omega) (.inr hk)
    refine .inr ⟨no, ?_⟩
    rw [acc_some (s := s) (by rw [v.forced]; exact hk)]
    exact nd_if no v.all st (ih v2 z)
  | @try_ w rest ws k ts no hk hl _ ih =>
    intro v z
    rw [has_try] at z
    refine .inr ⟨no, ?_⟩
    rw [acc_try (by rw [v.forced]; exact hk), decide_eq_true hl, Bool.true_and, List.all_eq_true]
    rintro ⟨t, i⟩ hp
    rw [List.mem_zipIdx_iff_getElem?] at hp
    have hp : ts[i]? = some t := hp
    obtain ⟨hi, e⟩ := List.getElem?_eq_some_iff.mp hp
    have hi2 : i < min (usd k ws + 1) m := by omega
    obtain ⟨st, v2⟩ := v.step (min_lt hi2) (.inl hk)
    refine nd_if no v.all st (ih i t hp v2 ?_)
    cases c : hasFit t with
    | false => rfl
    | true => rw [(hasFits_iff ts).mpr ⟨t, List.mem_of_getElem? hp, c⟩] at z; cases z
/-- where a watcher fits, no tree is taken -/
theorem fits_none {R W full : List (List Nat)} {m : Nat} : ∀ {rest ws : List (List Nat)} {k : Lk} {t : Tr}, Iv R W full m ws rest k → Fits m (smp R W) k → Nd R W m rest ws k t false
  | [], ws, k, t, v, f => .inr ⟨fun x hx => clash_nofit v hx f, by rw [acc]⟩
  | w :: rest, ws, k, t, v, f => by
    have no : ∀ x, ¬ isClash k ws R W x := fun x hx => clash_nofit v hx f
    refine .inr ⟨no, ?_⟩
    cases hk : k (rwN k w.dropLast) (lst w) with
    | some s =>
      have lt := (v.lt _ _ _ hk).1
      obtain ⟨st, v2⟩ := v.step (s := s) (by have := v.um; omega) (.inr hk)
      rw [acc_some (s := s) (by rw [v.forced]; exact hk)]
      exact nd_if no v.all st (fits_none v2 (by rw [fits_forced v hk]; exact f))
    | none =>
      have fo : forcedN k w = none := by rw [v.forced]; exact hk
      cases ht : trys t with
      | none => exact acc_no fo ht
      | some ts =>
        have et : t = .try_ ts := by
          cases t <;> simp [trys] at ht
          rw [ht]
        subst et
        rw [acc_try fo]
        by_cases c : ts.length = min (usd k ws + 1) m
        · rw [decide_eq_true c, Bool.true_and, List.all_eq_false]
          obtain ⟨i, hi, fi⟩ := (fits_try v hk).mp f
          have hi2 : i < ts.length := by omega
          refine ⟨(ts[i], i), ?_, ?_⟩
          · rw [List.mem_zipIdx_iff_getElem?]
            exact List.getElem?_eq_getElem hi2
          · obtain ⟨st, v2⟩ := v.step (min_lt hi) (.inl hk)
            rw [show (if (clash (ext k w i) (ws ++ [w]) R W i).isSome = true then isBad (ext k w i) (ws ++ [w]) R W ts[i] else acc R W m rest (ws ++ [w]) (ext k w i) ts[i]) = false from nd_if no v.all st (fits_none v2 fi)]
            decide
        · rw [decide_eq_false c, Bool.false_and]
theorem acc_non {R W : List (List Nat)} {m : Nat} : ∀ {rest ws : List (List Nat)} {k : Lk}, acc R W m rest ws k .non = false
  | [], ws, k => by rw [acc]
  | w :: rest, ws, k => by
    cases h : forcedN k w with
    | none => exact acc_no h rfl
    | some s =>
      rw [acc_some h]
      split
      · rfl
      · exact acc_non
/-- the law's wrong trees are refused -/
theorem tree_wrong {R W full : List (List Nat)} {m : Nat} (dj : ∀ w, w ∈ R → w ∉ W) (m0 : 0 < m) {rest ws : List (List Nat)} {k : Lk} {t : Tr} (h : IsT R W m rest ws k t) : Iv R W full m ws rest k → ∀ t', Wr t t' → Nd R W m rest ws k t' false := by
  induction h with
  | bad c =>
    intro v t' w
    refine .inl ⟨⟨_, c⟩, ?_⟩
    cases w with
    | b1 => rfl
    | b2 => exact decide_eq_false fun z => dj _ z.1 c.2.1
    | b3 => rfl
    | b4 => rfl
    | b5 => rfl
  | fits no => intro v t' w; cases w
  | @forced w rest ws k s t no hk _ ih =>
    intro v t' wr
    have lt := (v.lt _ _ _ hk).1
    obtain ⟨st, v2⟩ := v.step (by have := v.um; omega) (.inr hk)
    refine .inr ⟨no, ?_⟩
    rw [acc_some (s := s) (by rw [v.forced]; exact hk)]
    exact nd_if no v.all st (ih v2 t' wr)
  | @try_ w rest ws k ts no hk hl _ ih =>
    intro v t' wr
    have fo : forcedN k w = none := by rw [v.forced]; exact hk
    refine .inr ⟨no, ?_⟩
    cases wr with
    | t1 =>
      rw [acc_try fo, decide_eq_false (by rw [List.length_dropLast]; omega), Bool.false_and]
    | t2 =>
      rw [acc_try fo, decide_eq_false (by rw [List.length_append, List.length_take]; omega), Bool.false_and]
    | @t3 _ i t t' hi wr =>
      have hi1 := (List.getElem?_eq_some_iff.mp hi).1
      have hi2 : i < min (usd k ws + 1) m := by omega
      obtain ⟨st, v2⟩ := v.step (min_lt hi2) (.inl hk)
      rw [acc_try fo, Bool.and_eq_false_iff]
      refine .inr (List.all_eq_false.mpr ⟨(t', i), ?_, ?_⟩)
      · rw [List.mem_zipIdx_iff_getElem?]
        show (ts.take i ++ [t'] ++ ts.drop (i + 1))[i]? = some t'
        rw [List.append_assoc, List.getElem?_append_right (by rw [List.length_take]; omega)]
        rw [List.length_take, show i - min i ts.length = 0 by omega]
        rfl
      · rw [show (if (clash (ext k w i) (ws ++ [w]) R W i).isSome = true then isBad (ext k w i) (ws ++ [w]) R W t' else acc R W m rest (ws ++ [w]) (ext k w i) t') = false from nd_if no v.all st (ih i t hi v2 t' wr)]
        decide
    | t4 => exact acc_no fo rfl
    | t5 => exact acc_no fo rfl
/-! the beginning: the empty word has row 0 -/
theorem root_iv {R W full : List (List Nat)} {m : Nat} (pf : Pre full) (bi : Bin full) (beg : ∀ w, w ∈ full ↔ Beg (R ++ W) w) (m0 : 0 < m) : ∃ rest, full = [] :: rest ∧ Iv R W full m [[]] rest k0 := by
  have hm : [] ∈ full := (beg []).mpr (.inl rfl)
  cases full with
  | nil => cases hm
  | cons w rest =>
    have : w = [] := (pf.pre [] w rest rfl).resolve_right fun z => nomatch z
    subst this
    refine ⟨rest, rfl, rfl, pf, by simp, fun w hw => ?_, fun r c s e => (nomatch e), ?_, bi, beg⟩
    · simp at hw; subst hw; rfl
    · show usd k0 [[]] ≤ m
      have : usd k0 [[]] = 1 := rfl
      omega
theorem root_acc {R W : List (List Nat)} {m : Nat} {rest : List (List Nat)} {t : Tr} {b : Bool} (h : Nd R W m rest [[]] k0 t b) : acc R W m ([] :: rest) [] k0 t = b := by
  rw [acc_some (s := 0) rfl]
  refine nd_if (k := k0) (ws := []) (fun x hx => nomatch hx.2.2.1) (fun u hu => nomatch hu) ⟨fun z => (nomatch z), fun _ => ⟨rfl, rfl⟩, fun z => absurd rfl z⟩ ?_
  exact h
/-- heights -/
def Ht : Nat → Tr → Prop
  | 0, _ => False
  | n + 1, .try_ ts => 0 < ts.length ∧ ts.length ≤ 3 ∧ ∀ t ∈ ts, Ht n t
  | _ + 1, .fits => True
  | _ + 1, .bad _ _ => True
  | _ + 1, .bad1 _ => False
  | _ + 1, .non => False
theorem Ht.up : ∀ {n : Nat} {t : Tr}, Ht n t → Ht (n + 1) t
  | n + 1, .try_ ts, h => ⟨h.1, h.2.1, fun t m => (h.2.2 t m).up⟩
  | _ + 1, .fits, _ => True.intro
  | _ + 1, .bad _ _, _ => True.intro
theorem Ht.mono {n m : Nat} {t : Tr} (h : Ht n t) (l : n ≤ m) : Ht m t := by
  induction l with
  | refl => exact h
  | step _ ih => exact ih.up
theorem IsT.ht {R W : List (List Nat)} {m : Nat} (m0 : 0 < m) (m3 : m ≤ 3) {rest ws : List (List Nat)} {k : Lk} {t : Tr} (h : IsT R W m rest ws k t) : Ht (rest.length + 1) t := by
  induction h with
  | bad c => exact True.intro
  | fits no => exact True.intro
  | forced no hk _ ih => exact ih.up
  | try_ no hk hl _ ih =>
    refine ⟨by omega, by omega, fun t m => ?_⟩
    obtain ⟨i, hi, rfl⟩ := List.getElem_of_mem m
    exact ih i _ (List.getElem?_eq_getElem hi)
end Toy

set_option Elab.async false
set_option linter.all false
set_option maxRecDepth 100000
set_option maxHeartbeats 4000000
namespace Toy
open PySem L2
theorem dropLast_mem {w : List Nat} {c : Nat} (h : c ∈ w.dropLast) : c ∈ w := List.dropLast_subset w h
theorem keys_old {κ : Type} [DecidableEq κ] {m : List (κ × V)} {k : κ} {v u : V} (h : valV m k = some u) : (putK m k v).map (·.1) = m.map (·.1) := by
  have : m.any (fun kv => decide (kv.1 = k)) = true := by rw [valV_any, h]; rfl
  unfold putK
  rw [if_pos this, List.map_map]
  refine List.map_congr_left fun x _ => ?_
  show (if x.1 = k then (x.1, v) else x).1 = x.1
  by_cases c : x.1 = k
  · rw [if_pos c]
  · rw [if_neg c]
theorem put_self {k : Lk} {r c s : Nat} (h : k r c = some s) : k.put r c s = k := by
  funext r' c'
  unfold Lk.put
  by_cases q : r' = r ∧ c' = c
  · rw [if_pos q, q.1, q.2, h]
  · rw [if_neg q]
/-- the same link once more, or a new one -/
theorem LkD.put2 {H : Hp} {d d2 : Addr} {m : Nat} {k : Lk} {ns : List (Nat × Nat)} {mm : List (List Key × V)} (h : LkD H d m k ns mm) {r c o : Nat} (hr : r < m) (hc : c < 2) (ho : o < m) (hn : k r c = none ∨ k r c = some o) {H' : Hp} (e : H' d2 = some (.dT (putK mm (kp (r, c)) (.int ((o : Nat) : Int))))) :
    ∃ ns', LkD H' d2 m (k.put r c o) ns' (putK mm (kp (r, c)) (.int ((o : Nat) : Int))) := by
  rcases hn with hn | hn
  · exact ⟨_, h.put hr hc ho hn e⟩
  · have hv : valV mm (kp (r, c)) = some (.int ((o : Nat) : Int)) := by rw [h.val, hn]; rfl
    rw [put_self hn]
    refine ⟨ns, e, by rw [keys_old hv]; exact h.keys, h.nd, h.lt, fun r' c' => ?_, h.vlt⟩
    rw [valV_put]
    by_cases z : kp (r', c') = kp (r, c)
    · obtain ⟨rfl, rfl⟩ := Prod.mk.inj (kp_inj z)
      rw [if_pos rfl, hn]; rfl
    · rw [if_neg z, h.val]
theorem fold_mem : ∀ (l : List Nat) (a : Nat), l.foldl max a = a ∨ l.foldl max a ∈ l
  | [], a => .inl rfl
  | y :: l, a => by
    rcases fold_mem l (max a y) with h | h
    · rw [List.foldl_cons, h]
      by_cases c : a ≤ y
      · rw [Nat.max_eq_right c]; exact .inr List.mem_cons_self
      · rw [Nat.max_eq_left (by omega)]; exact .inl rfl
    · exact .inr (List.mem_cons_of_mem _ h)
theorem usd_max {k : Lk} {ws : List (List Nat)} {mx : Int} (h1 : mx ∈ ws.map fun u => ((rwN k u : Nat) : Int)) (h2 : ∀ y, y ∈ (ws.map fun u => ((rwN k u : Nat) : Int)) → y ≤ mx) : mx + 1 = ((usd k ws : Nat) : Int) := by
  obtain ⟨u, hu, rfl⟩ := List.mem_map.mp h1
  have a := usd_mem (k := k) hu
  have b : usd k ws ≤ rwN k u + 1 := by
    rcases fold_mem (ws.map fun w => rwN k w + 1) 0 with h | h
    · unfold usd; rw [h]; omega
    · obtain ⟨v, hv, e⟩ := List.mem_map.mp h
      have := h2 _ (List.mem_map.mpr ⟨v, hv, rfl⟩)
      unfold usd
      rw [← e]; omega
  omega
theorem run_lt {k : Lk} {m : Nat} (lt : ∀ r c s, k r c = some s → s < m) : ∀ (w : List Nat) (r s : Nat), r < m → run k r w = some s → s < m
  | [], r, s, h, e => by injection e with e; omega
  | c :: w, r, s, h, e => by
    unfold run at e
    cases g : k r c with
    | none => rw [g] at e; cases e
    | some t => rw [g] at e; exact run_lt lt w t s (lt _ _ _ g) e
theorem nd_pairs {m : Nat} {ns : List (Nat × Nat)} (nd : ns.Nodup) (lt : ∀ p ∈ ns, p.1 < m ∧ p.2 < 2) (m3 : m ≤ 3) : ns.length ≤ 6 := by
  have := nd_le 6 (ns.map fun p => 2 * p.1 + p.2) (List.pairwise_map.mpr (nd.imp_of_mem fun {p q} hp hq ne e => ne (by
    have := lt p hp
    have := lt q hq
    exact Prod.ext (by omega) (by omega)))) fun x hx => by
      obtain ⟨p, hp, rfl⟩ := List.mem_map.mp hx
      have := lt p hp
      omega
  rw [List.length_map] at this
  exact this
def spTree : Nat → Sp
  | 0 => fun _ _ _ _ => False
  | n + 1 => fun vs H Q _ => ∃ (d l q g lk : Addr) (ns : List Int) (us : List V) (vr vw : V) (m : Nat) (k : Lk) (nk : List (Nat × Nat)) (mm : List (List Key × V)) (ws rest full R W : List (List Nat)),
      vs = [.ref d, .ref q, .ref g, .ref lk, vr, vw, .int ((m : Nat) : Int)] ∧ Dr H d l ns ∧ q ≠ d ∧ H q = some (.lst us) ∧ DVs H us (full.map wd) ∧ GvD H g k ws ∧ LkD H lk m k nk mm ∧ DV H vr (.tup (R.map wd)) ∧ DV H vw (.tup (W.map wd)) ∧ R.length ≤ 25 ∧ W.length ≤ 25 ∧
      full = ws ++ rest ∧ rest.length ≤ n ∧ Pre full ∧ [] ∈ ws ∧ (∀ w ∈ ws, (run k 0 w).isSome = true) ∧ (∀ w ∈ full, w.length ≤ 3) ∧ Bin full ∧ 0 < m ∧ m ≤ 3 ∧
      ∀ (v : V) (H' : Hp) (t : Tr), Keep d H H' → Dr H' d l ns → DV H' v t.da → IsT R W m rest ws k t → Q v H'
section
variable {P : Program} {w : World} {K : PySem.W.Frag} {mg : Str → Option Value} {base : Heap} {CR : Addr}
abbrev s_l_tree_from : Stmt := top 28
theorem sc_l_tree_from : FnScope ["d", "words", "given", "links", "right", "wrong", "many", "at", "clashes", "pair", "word", "key", "rows", "is_forced", "used", "trees", "row", "more", "after", "k", "other"] ["d", "words", "given", "links", "right", "wrong", "many"] (defScope s_l_tree_from) := ⟨rfl, rfl, rfl, by decide +kernel, rfl, by decide +kernel, by decide +kernel⟩

theorem ok_tree {n : Nat} {f : Addr} {fd : FuncData} (F : Fun K "_law_tree_from" "_law_tree_from" s_l_tree_from f fd) (T : Txt K mg CR) (C__law_clashes : CalX P w K mg base CX0 1 "_law_clashes" spClashes) (C__law_pick : CalX P w K mg base CX0 2 "_law_pick" spPick) (C__law_tree_from : CalX P w K mg base CX0 (n + 2) "_law_tree_from" (spTree n)) :
    FnOk P w K mg base CX0 (n + 3) f fd ["d", "words", "given", "links", "right", "wrong", "many"] (spTree (n + 1)) := by
  refine F.ok sc_l_tree_from (fun vs H Q E h => ?_) (fun cdv A outer s H vs Q E hr h => ?_)
  · obtain ⟨d, l, q, g, lk, ns, us, vr, vw, m, k, nk, mm, ws, rest, full, R, W, rfl, _⟩ := h
    rfl
  obtain ⟨d, l, q, g, lk, ns, us, vr, vw, m, k, nk, mm, ws, rest, full, R, W, rfl, D0, qd, hq, hus, hG, hL, hR, hW, lR, lW, ef, hn, pf, nw, all, l3, bi, m0, m3, kk⟩ := h
  have hr : Room (n + 2) _ := hr
  have hul := hus.length
  rw [List.length_map] at hul
  refine ⟨_, (pss_cons (ps_set (i := 7) sc_l_tree_from.nd rfl (Or.inl rfl) (pe_callB call_len_dT (by rfl) T.z_len b_len (pa_cons (pv 2) pa_nil)))
    (pss_cons (ps_set (i := 8) sc_l_tree_from.nd rfl (Or.inl rfl) (pe_u C__law_clashes hr (by omega) pass0 (pa_cons (pv 2) (pa_cons (pv 4) (pa_cons (pv 5) pa_nil)))))
    (pss_cons (ps_if (pt_cmpR op_gt (pe_callB call_len_seq (by rfl) T.z_len b_len (pa_cons (pv 8) pa_nil)) pe_int (nomark _)) (pss_cons (ps_set (i := 9) sc_l_tree_from.nd rfl (Or.inl rfl) (pe_u C__law_pick hr (by omega) pass0 (pa_cons (pv 0) (pa_cons (pv 8) pa_nil))))
    (pss_one (ps_ret (pe_tup (pa_cons pe_str (pa_cons (pe_ix ix_tup (pv 9) pe_int (fun _ _ => rfl)) (pa_cons (pe_ix ix_tup (pv 9) pe_int (fun _ _ => rfl)) pa_nil))))))) pss_nil)
    (pss_cons (ps_if (pt_cmpR op_eq (pv 7) (pe_callB call_len_seq (by rfl) T.z_len b_len (pa_cons (pv 1) pa_nil)) (nomark _)) (pss_one (ps_ret (pe_tup (pa_cons pe_str pa_nil)))) pss_nil)
    (pss_cons (ps_set (i := 10) sc_l_tree_from.nd rfl (Or.inl rfl) (pe_ix ix_list (pv 1) (pv 7) (fun _ _ => rfl)))
    (pss_cons (ps_set (i := 11) sc_l_tree_from.nd rfl (Or.inr rfl) (pe_tup (pa_cons (pe_dget (hu_b hr) (pv 2) (pe_slice sl_tupB (pv 10) po_none (po_some (pe_un un_neg pe_int))) (fun _ _ => rfl)) (pa_cons (pe_ix ix_tup (pv 10) (pe_un un_neg pe_int) (fun _ _ => rfl)) pa_nil))))
    (pss_cons (ps_setLc (i := 12) (own := [("k", 19)]) (g := gName 19) (by rfl) sc_l_tree_from.nd rfl rfl (sw_true (by rfl) (by rfl) (by rfl) (by decide +kernel)) (pi_range1 (by rfl) T.z_range (pa_cons pe_int pa_nil)) (blkOk_by (own := [("k", 19)]) (N := ["d", "words", "given", "links", "right", "wrong", "many", "at", "clashes", "pair", "word", "key", "rows", "is_forced", "used", "trees", "row", "more", "after", "k", "other"]) (sc := defScope s_l_tree_from) (by decide +kernel)) (fun _ _ _ _ _ => pg_name (i := 19) sc_l_tree_from.nd rfl (Or.inl rfl)) (fun _ _ _ _ _ => pts_one (pt_cmp (pc_din (hu_b hr) (pv 11) (pv 3)) rfl)) (fun _ _ _ _ _ => (pe_dget (hu_b hr) (pv 3) (pv 11) (fun _ _ => rfl))))
    (pss_cons (ps_set (i := 13) sc_l_tree_from.nd rfl (Or.inl rfl) (pe_cmpR op_gt (pe_callB call_len_seq (by rfl) T.z_len b_len (pa_cons (pv 12) pa_nil)) pe_int (nomark _)))
    (C8.pss_cut (ps_if (pt_not (pt_val (pv 13))) (pss_cons (ps_set (i := 14) sc_l_tree_from.nd rfl (Or.inl rfl) (pe_op op_add pe_int (pe_callB (cr_max rfl) (by rfl) T.z_max b_max (pa_cons (pe_lc (own := [("other", 20)]) (g := gName 20) (by rfl) sc_l_tree_from.nd (pi_list (pe_slice sl_list (pv 1) po_none (po_some (pv 7)))) (blkOk_by (own := [("other", 20)]) (N := ["d", "words", "given", "links", "right", "wrong", "many", "at", "clashes", "pair", "word", "key", "rows", "is_forced", "used", "trees", "row", "more", "after", "k", "other"]) (sc := defScope s_l_tree_from) (by decide +kernel)) (fun _ _ _ _ _ => pg_name (i := 20) sc_l_tree_from.nd rfl (Or.inl rfl)) (fun _ _ _ _ _ => pts_nil) (fun _ _ _ _ _ => (pe_dget (hu_b hr) (pv 2) (pv 20) (fun _ _ => rfl)))) pa_nil))))
    (pss_one (ps_set (i := 12) sc_l_tree_from.nd rfl (Or.inl rfl) (pe_listRg rfl (by rfl) T.z_list (prg_1 (by rfl) T.z_range (pe_callB (call_min2 rfl) (by rfl) T.z_min b_min (pa_cons (pe_op op_add (pv 14) pe_int) (pa_cons (pv 6) pa_nil)))))))) pss_nil)
    (pss_cons (ps_set (i := 15) sc_l_tree_from.nd rfl (Or.inl rfl) (pe_lst pa_nil))
    (pss_cons (ps_for PassesOwn.never rfl (pi_list (pv 12)) (pg_name (i := 16) sc_l_tree_from.nd rfl (Or.inl rfl)) (pss_cons (ps_set (i := 17) sc_l_tree_from.nd rfl (Or.inl rfl) (pe_callTy (call_dictT (hu_d hr)) (by rfl) T.z_dict b_dict (pa_cons (pv 2) pa_nil)))
    (pss_cons (ps_dput (hu_b hr) (pv 17) (pv 10) (pv 16) rfl)
    (pss_cons (ps_set (i := 18) sc_l_tree_from.nd rfl (Or.inl rfl) (pe_callTy (call_dictT (hu_d hr)) (by rfl) T.z_dict b_dict (pa_cons (pv 3) pa_nil)))
    (pss_cons (ps_dput (hu_b hr) (pv 18) (pv 11) (pv 16) rfl)
    (pss_one (ps_expr (pe_bm PySem.F.plainAttrs_list PySem.F.slot_list_append PySem.F.type_list_append mt_append (pv 15) (pa_cons (pe_u C__law_tree_from hr (by omega) pass0 (pa_cons (pv 0) (pa_cons (pv 1) (pa_cons (pv 17) (pa_cons (pv 18) (pa_cons (pv 4) (pa_cons (pv 5) (pa_cons (pv 6) pa_nil)))))))) pa_nil)))))))))
    (pss_cons (ps_if (pt_val (pv 13)) (pss_one (ps_ret (pe_ix ix_list (pv 15) pe_int (fun _ _ => rfl)))) pss_nil)
    (pss_one (ps_ret (pe_tup (pa_cons pe_str (pa_cons (pe_callTy call_tuple_of (by rfl) T.z_tuple b_tuple (pa_cons (pv 15) pa_nil)) pa_nil))))))))))))))))), ?_⟩
  refine ⟨_, rfl, g, _, rfl, hG, ?_⟩
  refine ⟨_, rfl, _, rfl, _, rfl, ?_⟩
  refine ⟨g, vr, vw, k, ws, R, W, rfl, hG, hR, hW, lR, lW, fun p H1 cs ps hp0 s1 hp1 dps me pl => ?_⟩
  have dl := dps.length
  rw [List.length_map] at dl
  have D1 := D0.same s1
  refine ⟨_, rfl, p, _, rfl, .inl (SqL.of hp1), _, _, rfl, rfl, _, rfl, ite2 (fun c => ?_) (fun c => ?_)⟩
  · have hlen : 0 < cs.length := by simpa using c
    have pn := D0.new hp0
    refine ⟨_, rfl, _, rfl, d, l, p, ns, cs, rfl, D1, pn.1, hp1, fun z => by rw [z] at hlen; exact absurd hlen (by decide), by omega, fun x H2 hx k2 D2 => ?_⟩
    obtain ⟨j, hj, rfl⟩ := List.getElem_of_mem hx
    obtain ⟨pd, hpd, dv⟩ := dps.get (List.getElem?_eq_getElem hj)
    rw [List.getElem?_map] at hpd
    obtain ⟨⟨a, b⟩, hab, rfl⟩ := Option.map_eq_some_iff.mp hpd
    obtain ⟨pq, xs, epq, hpq, hxs⟩ := (dv.mono (D1.tups k2)).inv
    rw [epq]
    cases hxs with
    | cons h1 h2 =>
      cases h2 with
      | cons h3 h4 =>
        cases h4
        refine ⟨_, rfl, pq, _, _, _, rfl, rfl, SqT.of hpq, rfl, _, rfl, pq, _, _, _, rfl, rfl, SqT.of hpq, rfl, by show 3 ≤ sizeLine; decide, fun t ht => ?_⟩
        exact kk _ _ (.bad a b) ((s1.keep.trans k2).trans (Keep.new ht)) (D2.same (Same.upd ht)) (.tup upd_same (.cons (.str _) (.cons (h1.mono (tups_new ht)) (.cons (h3.mono (tups_new ht)) .nil)))) (.bad ((me (a, b)).mp (List.mem_of_getElem? hab)))
  have noc : ∀ x, ¬ isClash k ws R W x := fun x hx => by
    have := List.length_pos_of_mem ((me x).mpr hx)
    refine absurd ?_ c
    simp; omega
  refine ⟨_, rfl, _, rfl, q, us, rfl, .inl (SqL.of (s1 _ _ hq)), rfl, _, rfl, ?_⟩
  rw [List.length_map, hul, ef, List.length_append]
  cases rest with
  | nil =>
    refine ifT (by simp) ?_
    refine ⟨by show 1 ≤ sizeLine; decide, fun t ht => ?_⟩
    exact kk _ _ .fits (s1.keep.trans (Keep.new ht)) (D1.same (Same.upd ht)) (.tup upd_same (.cons (.str _) .nil)) (.fits noc)
  | cons w0 rest =>
  refine ifF (by simp; omega) ?_
  obtain ⟨n, rfl⟩ : ∃ n', n = n' + 1 := ⟨n - 1, by rw [List.length_cons] at hn; omega⟩
  have hw : full[ws.length]? = some w0 := by rw [ef, List.getElem?_append_right (Nat.le_refl _)]; simp
  obtain ⟨wv, hwv, dwv⟩ := hus.at (i := ws.length) (p := wd w0) (by rw [List.getElem?_map, hw]; rfl)
  obtain ⟨wp, rfl, hwp⟩ := dwv.word
  have hw0 : w0 ≠ [] := fun z => by
    have := pf.fresh ef
    rw [z] at this
    exact this nw
  have hpre := (pf.pre _ _ _ ef).resolve_left hw0
  have hwp1 := s1 _ _ hwp
  refine ⟨_, rfl, _, rfl, q, _, _, _, rfl, rfl, SqL.of (s1 _ _ hq), atI_nat hwv, ?_⟩
  refine ⟨_, rfl, _, rfl, _, rfl, _, rfl, wp, _, rfl, hwp1, fun b H2 s2 hb => ?_⟩
  have hb' : H2 b = some (.tup ((ky w0.dropLast).map kV)) := by
    rw [hb, ky_vs, show (-(1 : Int)) = -1 by rfl, cutV_last, List.map_dropLast]
  have s12 := s1.trans s2
  have dg := DGet.t (s12 _ _ hG) hb'
  rw [val_given hpre] at dg
  refine ⟨g, _, rfl, dg, ?_⟩
  refine ⟨_, rfl, _, rfl, wp, _, _, _, rfl, rfl, SqT.of (s2 _ _ hwp1), at_last hw0, by show 2 ≤ sizeLine; decide, fun kt hkt => ?_⟩
  have s3 : Same H2 (upd H2 kt (.tup [.int ((rwN k w0.dropLast : Nat) : Int), .int ((lst w0 : Nat) : Int)])) := Same.upd hkt
  have h3 : upd H2 kt (.tup [.int ((rwN k w0.dropLast : Nat) : Int), .int ((lst w0 : Nat) : Int)]) kt = some (.tup ((kp (rwN k w0.dropLast, lst w0)).map kV)) := upd_same
  generalize upd H2 kt (.tup [.int ((rwN k w0.dropLast : Nat) : Int), .int ((lst w0 : Nat) : Int)]) = H3 at s3 h3 ⊢
  have s13 := s12.trans s3
  have hL3 := hL.same s13
  have dl3 := DGet.t hL3.at_ h3
  refine ⟨_, rfl, by decide, by decide, fun Dr hDr => ?_⟩
  refine lc_range (lo := 0) (n := 1) (fun j H4 => Same H3 H4 ∧ H4 Dr = some (.lst (if j = 0 then [] else (k (rwN k w0.dropLast) (lst w0)).toList.map fun s => V.int ((s : Nat) : Int)))) ⟨Same.upd hDr, by rw [upd_same]; rfl⟩ (fun j H4 hj h => ?_) (fun H4 h => ?_)
  · obtain ⟨s4, e4⟩ := h
    have hL4 := hL3.same s4
    have dl4 := DGet.t hL4.at_ (s4 _ _ h3)
    rw [hL4.val] at dl4
    obtain rfl : j = 0 := by omega
    refine ⟨rfl, _, rfl, _, rfl, lk, _, rfl, dl4, ?_⟩
    cases ek : k (rwN k w0.dropLast) (lst w0) with
    | none =>
      rw [ek] at e4
      exact ⟨_, rfl, ifF (by simp) ⟨s4, e4⟩⟩
    | some s0 =>
      rw [ek] at e4 dl4
      refine ⟨_, rfl, ifT (by simp) ⟨_, rfl, _, rfl, lk, _, rfl, dl4, [], e4, small1000 (by simp), fun b2 o e => ?_, ?_⟩⟩
      · rw [upd_ne (ne_of_none e hDr)]; exact s4 _ _ e
      · rw [upd_same]; rfl
  obtain ⟨s4, e4⟩ := h
  rw [if_neg (by decide)] at e4
  have hDr0 : H Dr = none := by
    cases c : H Dr with
    | none => rfl
    | some o => rw [s13 _ _ c] at hDr; cases hDr
  refine ⟨_, rfl, Dr, _, rfl, .inl (SqL.of e4), _, _, rfl, rfl, ?_⟩
  refine ⟨fun σ' H' => ∃ (Dq : Addr) (rs : List Nat) (b : Bool) (g14 : Option V), σ' = [some (.ref d), some (.ref q), some (.ref g), some (.ref lk), some vr, some vw, some (.int ((m : Nat) : Int)), some (.int ((ws.length : Nat) : Int)), some (.ref p), none, some (.ref wp), some (.ref kt), some (.ref Dq), some (.bl b), g14, none, none, none, none, none, none] ∧
    Same H3 H' ∧ H Dq = none ∧ H' Dq = some (.lst (rs.map fun r => V.int ((r : Nat) : Int))) ∧ ((b = true ∧ ∃ s, k (rwN k w0.dropLast) (lst w0) = some s ∧ rs = [s]) ∨ (b = false ∧ k (rwN k w0.dropLast) (lst w0) = none ∧ rs = List.range (min (usd k ws + 1) m))), ?_, ?_⟩
  · cases ek : k (rwN k w0.dropLast) (lst w0) with
    | some s0 =>
      rw [ek] at e4
      exact ⟨_, rfl, _, rfl, ifF (by simp) ⟨Dr, [s0], true, _, rfl, s4, hDr0, e4, .inl ⟨rfl, s0, rfl, rfl⟩⟩⟩
    | none =>
      rw [ek] at e4
      refine ⟨_, rfl, _, rfl, ifT (by simp) ?_⟩
      have s14 := s13.trans s4
      refine ⟨_, rfl, _, rfl, _, rfl, q, _, rfl, SqL.of (s14 _ _ hq), fun c hc => ?_⟩
      rw [cutV_to]
      have wsl : ws.length ≤ 900 := by have := pf.few; rw [ef, List.length_append] at this; omega
      have utl : (us.take ws.length).length = ws.length := by rw [List.length_take, hul, ef, List.length_append]; omega
      refine ⟨c, rfl, ⟨_, SqL.of upd_same⟩, fun D2 hD2 => ?_⟩
      have cD2 : D2 ≠ c := fun z => by rw [z, upd_same] at hD2; cases hD2
      have hD20 : H4 D2 = none := by rw [upd_ne cD2] at hD2; exact hD2
      refine lc_list (K := K) (a := c) (xs := us.take ws.length) (fun j H5 => Same H4 H5 ∧ H5 c = some (.lst (us.take ws.length)) ∧ H5 D2 = some (.lst (((ws.take j).map fun u => ((rwN k u : Nat) : Int)).map V.int))) ⟨(Same.upd hc).trans (Same.upd hD2), by rw [upd_ne (Ne.symm cD2), upd_same], by rw [upd_same]; simp⟩ (fun j H5 _ h => SqL.of h.2.1) (fun j x H5 hx h => ?_) (fun H5 h => ?_)
      · obtain ⟨s5, e5, f5⟩ := h
        have hj : j < ws.length := by have := (List.getElem?_eq_some_iff.mp hx).1; omega
        have hx' : us[j]? = some x := by rw [List.getElem?_take_of_lt hj] at hx; exact hx
        obtain ⟨pd, hpd, dx⟩ := hus.get hx'
        have ej : full[j]? = some ws[j] := by rw [ef, List.getElem?_append_left hj]; exact List.getElem?_eq_getElem hj
        rw [List.getElem?_map, ej] at hpd
        obtain rfl := Option.some.inj hpd
        have s15 := s14.trans s5
        obtain ⟨xp, rfl, hxp⟩ := (dx.mono (same_tp s15)).word
        have gx := DGet.t (s15 _ _ hG) (by rw [← ky_vs] at hxp; exact hxp)
        rw [val_given (List.getElem_mem hj)] at gx
        refine ⟨rfl, ?_⟩
        simp only [tYes, if_true]
        refine ⟨_, rfl, _, rfl, g, _, rfl, gx, _, f5, ?_, ?_, ?_, ?_⟩
        · rw [List.length_map, List.length_map, List.length_take]; exact small1000 (by omega)
        · intro b2 o e
          rw [upd_ne (ne_of_none e hD20)]; exact s5 _ _ e
        · rw [upd_ne (Ne.symm cD2)]; exact e5
        · rw [upd_same, List.take_succ, List.getElem?_eq_getElem hj, List.map_append, List.map_append]; rfl
      · obtain ⟨s5, e5, f5⟩ := h
        rw [utl, List.take_length] at f5
        refine ⟨D2, _, rfl, SqL.of f5, by rw [List.length_map]; exact List.length_pos_of_mem nw, fun mx hm1 hm2 => ?_⟩
        have emx : mx + 1 = ((usd k ws : Nat) : Int) := usd_max hm1 hm2
        refine ⟨_, _, rfl, rfl, _, rfl, _, _, rfl, rfl, _, rfl, _, _, rfl, _, rfl, ?_⟩
        have em : (if ((m : Nat) : Int) < 1 + mx + 1 then ((m : Nat) : Int) else 1 + mx + 1) = ((min (usd k ws + 1) m : Nat) : Int) := by split <;> omega
        rw [em]
        refine ⟨RgOk.of_le (Int.le_refl 0) (by omega) (by decide) (by omega), fun Dq hDq => ?_⟩
        have hDq0 : H Dq = none := by
          cases c : H Dq with
          | none => rfl
          | some o => rw [s5 _ _ (s14 _ _ c)] at hDq; cases hDq
        refine ⟨Dq, List.range (min (usd k ws + 1) m), false, some (.int (1 + mx)), rfl, (s4.trans s5).trans (Same.upd hDq), hDq0, ?_, .inr ⟨rfl, rfl, rfl⟩⟩
        rw [upd_same]
        unfold rgV
        simp
  · rintro σ' H4 ⟨Dq, rs, b0, g14, rfl, s4, hq0, e4, hb⟩
    have s14 := s13.trans s4
    have wn : w0 ∉ ws := pf.fresh ef
    have rok : (∀ r ∈ rs, r < m ∧ (k (rwN k w0.dropLast) (lst w0) = none ∨ k (rwN k w0.dropLast) (lst w0) = some r)) ∧ rs.length ≤ 3 := by
      rcases hb with ⟨_, s, h1, rfl⟩ | ⟨_, h1, rfl⟩
      · exact ⟨fun r hr => by rw [List.mem_singleton] at hr; subst hr; exact ⟨hL.vlt _ _ _ h1, .inr h1⟩, by simp⟩
      · exact ⟨fun r hr => ⟨by rw [List.mem_range] at hr; omega, .inl h1⟩, by rw [List.length_range]; omega⟩
    obtain ⟨rok, rsl⟩ := rok
    have gd : g ≠ d := ne_of hG D0.choose_spec.choose_spec.choose_spec.2.1 (fun z => nomatch z)
    have ld : lk ≠ d := ne_of hL.at_ D0.choose_spec.choose_spec.choose_spec.2.1 (fun z => nomatch z)
    have qdn := D0.new hq0
    have ndw : ws.Nodup := by have := pf.nd; rw [ef] at this; exact (List.nodup_append.mp this).1
    have l3w : ∀ w ∈ ws, w.length ≤ 3 := fun w h => l3 w (by rw [ef]; exact List.mem_append_left _ h)
    have biw : Bin ws := fun w h => bi w (by rw [ef]; exact List.mem_append_left _ h)
    have wsl : ws.length + 1 ≤ 900 := by have := pf.few; rw [ef, List.length_append, List.length_cons] at this; omega
    have hrow : rwN k w0.dropLast < m := by
      obtain ⟨x, hx⟩ := Option.isSome_iff_exists.mp (all _ hpre)
      unfold rwN
      rw [hx]
      exact run_lt hL.vlt _ _ _ m0 hx
    have hlst : lst w0 < 2 := by
      refine bi w0 (by rw [ef]; simp) _ ?_
      have := word_split hw0
      rw [this]
      simp [lst]
    refine ⟨by show 0 ≤ sizeLine; decide, fun tl htl => ?_⟩
    have tln := (D0.same s14).new htl
    have s5 : Same H (upd H4 tl (.lst [])) := s14.trans (Same.upd htl)
    have e5 : upd H4 tl (.lst []) Dq = some (.lst (rs.map fun r => V.int ((r : Nat) : Int))) := by rw [upd_ne (ne_of_none e4 htl)]; exact e4
    have t5 : upd H4 tl (.lst []) tl = some (.lst []) := upd_same
    have k5 : upd H4 tl (.lst []) kt = some (.tup ((kp (rwN k w0.dropLast, lst w0)).map kV)) := by rw [upd_ne (ne_of_none (s4 _ _ h3) htl)]; exact s4 _ _ h3
    have D5 := D0.same s5
    generalize upd H4 tl (.lst []) = H5 at s5 e5 t5 k5 D5 ⊢
    refine ⟨_, rfl, Dq, rfl, ⟨_, SqL.of e5⟩, for_list (K := K) (a := Dq) (xs := rs.map fun r => V.int ((r : Nat) : Int)) (fun i σ H' => Keep d H H' ∧ H' kt = some (.tup ((kp (rwN k w0.dropLast, lst w0)).map kV)) ∧ Toy.Dr H' d l ns ∧ (∃ g16 g17 g18, σ = [some (.ref d), some (.ref q), some (.ref g), some (.ref lk), some vr, some vw, some (.int ((m : Nat) : Int)), some (.int ((ws.length : Nat) : Int)), some (.ref p), none, some (.ref wp), some (.ref kt), some (.ref Dq), some (.bl b0), g14, some (.ref tl), g16, g17, g18, none, none]) ∧
      H' Dq = some (.lst (rs.map fun r => V.int ((r : Nat) : Int))) ∧ ∃ (tv : List V) (ts : List Tr), H' tl = some (.lst tv) ∧ DVs H' tv (ts.map Tr.da) ∧ ts.length = i ∧ ∀ (j : Nat) (t : Tr) (r : Nat), ts[j]? = some t → rs[j]? = some r → IsT R W m rest (ws ++ [w0]) (ext k w0 r) t)
      ⟨s5.keep, k5, D5, ⟨_, _, _, rfl⟩, e5, [], [], t5, .nil, rfl, ?_⟩ (fun i σ H' _ h => SqL.of h.2.2.2.2.1) (fun i x σ H' hx h => ?_) (fun σ H' h => ?_)⟩
    · intro j t r h
      exact absurd h (by simp)
    · obtain ⟨K6, k6, D6, ⟨g16, g17, g18, rfl⟩, e6, tv, ts, t6, d6, l6, p6⟩ := h
      rw [List.getElem?_map] at hx
      obtain ⟨r, hr1, rfl⟩ := Option.map_eq_some_iff.mp hx
      obtain ⟨rm, rk⟩ := rok r (List.mem_of_getElem? hr1)
      have hi : i < rs.length := (List.getElem?_eq_some_iff.mp hr1).1
      have st : Step k (ext k w0 r) ws w0 r := pf.step ef (by unfold forcedN; rw [if_neg hw0]; exact rk)
      have rn := st.run all
      have rs' : rwN (ext k w0 r) w0 = r := by unfold rwN; rw [rn]; rfl
      have gs := given_snoc st.le all wn
      rw [rs'] at gs
      have ex : ext k w0 r = k.put (rwN k w0.dropLast) (lst w0) r := by unfold ext; rw [if_neg hw0]
      have tp6 := D0.tups K6
      have G6 : GvD H' g k ws := K6 _ _ gd hG
      have L6 : LkD H' lk m k nk mm := ⟨K6 _ _ ld hL.at_, hL.keys, hL.nd, hL.lt, hL.val, hL.vlt⟩
      have gh := gv_hash (k := k) ndw l3w biw
      refine ⟨_, rfl, g, _, _, rfl, G6, gh.1, gh.2, fun p2 hp2 => ?_⟩
      have wp6 : H' wp = some (.tup ((ky w0).map kV)) := by rw [ky_vs]; exact tp6 _ _ hwp
      refine ⟨_, rfl, _, rfl, _, rfl, p2, _, rfl, .t upd_same (by rw [upd_ne (ne_of_none wp6 hp2)]; exact wp6) (by rw [List.length_map]; exact small1000 (by omega)), ?_⟩
      rw [gs]
      have s7 : Same H' (upd (upd H' p2 (.dT (ws.map (gv k)))) p2 (.dT ((ws ++ [w0]).map (gv (ext k w0 r))))) := fun b2 o e => by
        rw [upd_ne (ne_of_none e hp2), upd_ne (ne_of_none e hp2)]; exact e
      have g7 : upd (upd H' p2 (.dT (ws.map (gv k)))) p2 (.dT ((ws ++ [w0]).map (gv (ext k w0 r)))) p2 = some (.dT ((ws ++ [w0]).map (gv (ext k w0 r)))) := upd_same
      generalize upd (upd H' p2 (.dT (ws.map (gv k)))) p2 (.dT ((ws ++ [w0]).map (gv (ext k w0 r)))) = H7 at s7 g7 ⊢
      have L7 := L6.same s7
      refine ⟨_, rfl, lk, mm, _, rfl, L7.at_, (L7.hash m3).1, (L7.hash m3).2, fun p3 hp3 => ?_⟩
      have kt7 := s7 _ _ k6
      refine ⟨_, rfl, _, rfl, _, rfl, p3, _, rfl, .t upd_same (by rw [upd_ne (ne_of_none kt7 hp3)]; exact kt7) (small1000 (by have := L7.len; have := nd_pairs L7.nd L7.lt m3; omega)), ?_⟩
      have s8 : Same H7 (upd (upd H7 p3 (.dT mm)) p3 (.dT (putK mm (kp (rwN k w0.dropLast, lst w0)) (.int ((r : Nat) : Int))))) := fun b2 o e => by
        rw [upd_ne (ne_of_none e hp3), upd_ne (ne_of_none e hp3)]; exact e
      obtain ⟨nk', L8⟩ := L7.put2 (H' := upd (upd H7 p3 (.dT mm)) p3 (.dT (putK mm (kp (rwN k w0.dropLast, lst w0)) (.int ((r : Nat) : Int))))) (d2 := p3) hrow hlst rm rk upd_same
      rw [← ex] at L8
      generalize upd (upd H7 p3 (.dT mm)) p3 (.dT (putK mm (kp (rwN k w0.dropLast, lst w0)) (.int ((r : Nat) : Int)))) = H8 at s8 L8 ⊢
      have s68 := s7.trans s8
      have K80 : Keep d H H8 := K6.trans s68.keep
      have tp8 := D0.tups K80
      refine ⟨_, rfl, .inl ⟨rfl, _, SqL.of (s68 _ _ t6)⟩, ?_⟩
      refine ⟨_, rfl, _, rfl, _, rfl, _, rfl, _, rfl, _, rfl, _, rfl, d, l, q, p2, p3, ns, us, vr, vw, m, ext k w0 r, nk', _, ws ++ [w0], rest, full, R, W, rfl, D6.same s68, qd, K80 _ _ qd hq, hus.mono tp8, s8 _ _ g7, L8, hR.mono tp8, hW.mono tp8, lR, lW, by rw [ef]; simp, by rw [List.length_cons] at hn; omega, pf, List.mem_append_left _ nw, fun u hu => ?_, l3, bi, m0, m3, fun v H9 t k9 D9 dv it => ?_⟩
      · rcases List.mem_append.mp hu with z | z
        · obtain ⟨x, hx⟩ := Option.isSome_iff_exists.mp (all u z)
          rw [run_le st.le _ _ _ hx]; rfl
        · simp at z; subst z; rw [rn]; rfl
      · have t9 := k9 _ _ tln.1 (s68 _ _ t6)
        have D8 := D6.same s68
        have tp9 := D8.tups k9
        have tp10 : Tups H9 (upd H9 tl (.lst (tv ++ [v]))) := tups_upd fun xs e => by rw [t9] at e; cases e
        have htl0 : H tl = none := by
          cases c : H tl with
          | none => rfl
          | some o => rw [s14 _ _ c] at htl; cases htl
        refine ⟨tl, tv, _, rfl, rfl, t9, ?_, ?_, ?_, D9.upd2 tln.1 tln.2, ⟨_, _, _, rfl⟩, ?_, tv ++ [v], ts ++ [t], upd_same, ?_, by rw [List.length_append, l6]; rfl, fun j t' r' h1 h2 => ?_⟩
        · have := d6.length
          rw [List.length_map] at this
          exact small1000 (by omega)
        · intro b2 o nb e
          rw [upd_ne (ne_of_none e htl0)]; exact k9 b2 o nb (s68 _ _ (K6 b2 o nb e))
        · exact tp10 _ _ (tp9 _ _ (s68 _ _ k6))
        · rw [upd_ne (fun z => by rw [z, htl] at e4; cases e4)]
          exact k9 _ _ qdn.1 (s68 _ _ e6)
        · rw [List.map_append]
          exact (((d6.mono (same_tp s68)).mono tp9).mono tp10).snoc (dv.mono tp10)
        · by_cases c : j < ts.length
          · rw [List.getElem?_append_left c] at h1
            exact p6 j t' r' h1 h2
          · have hj : j < ts.length + 1 := by have := (List.getElem?_eq_some_iff.mp h1).1; rw [List.length_append, List.length_singleton] at this; exact this
            obtain rfl : j = i := by omega
            rw [hr1] at h2
            obtain rfl := Option.some.inj h2
            rw [List.getElem?_append_right (by omega), l6, Nat.sub_self] at h1
            obtain rfl : t = t' := Option.some.inj h1
            exact it
    · obtain ⟨K6, k6, D6, ⟨g16, g17, g18, rfl⟩, e6, tv, ts, t6, d6, l6, p6⟩ := h
      rw [List.length_map] at l6
      rcases hb with ⟨rfl, s0, ek, rfl⟩ | ⟨rfl, ek, rfl⟩
      · obtain ⟨t0, rfl⟩ : ∃ t0, ts = [t0] := by
          cases ts with
          | nil => simp at l6
          | cons a r => cases r with
            | nil => exact ⟨a, rfl⟩
            | cons b r => simp at l6
        cases d6 with
        | cons h1 h2 =>
          cases h2
          refine ⟨_, rfl, _, rfl, ifT rfl ⟨_, rfl, tl, _, 0, _, rfl, rfl, SqL.of t6, rfl, ?_⟩⟩
          exact kk _ _ t0 K6 D6 h1 (.forced noc ek (p6 0 t0 s0 rfl rfl))
      · refine ⟨_, rfl, _, rfl, ifF (by simp) ⟨_, rfl, tl, _, rfl, .inl ⟨SqL.of t6, fun tq htq => ⟨by show 2 ≤ sizeLine; decide, fun tt htt => ?_⟩⟩⟩⟩
        have tqt : tq ≠ tt := fun z => by rw [← z, upd_same] at htt; cases htt
        have s7 : Same H' (upd (upd H' tq (.tup tv)) tt (.tup [.str "try", .ref tq])) := (Same.upd htq).trans (Same.upd htt)
        refine kk _ _ (.try_ ts) (K6.trans s7.keep) (D6.same s7) ?_ (.try_ noc ek (by rw [l6, List.length_range]) fun i t hi => ?_)
        · rw [Tr.da, das_map]
          exact .tup upd_same (.cons (.str _) (.cons (.tup (by rw [upd_ne tqt, upd_same]) (d6.mono (same_tp s7))) .nil))
        · refine p6 i t i hi ?_
          have := (List.getElem?_eq_some_iff.mp hi).1
          rw [l6, List.length_range] at this
          rw [List.getElem?_range this]
end
end Toy

set_option Elab.async false
set_option linter.all false
set_option maxRecDepth 100000
set_option maxHeartbeats 4000000
namespace Toy
open PySem L2
def spHas : Nat → Sp
  | 0 => fun _ _ _ _ => False
  | n + 1 => fun vs H Q _ => ∃ v t, vs = [v] ∧ DV H v t.da ∧ Ht (n + 1) t ∧ ∀ H', Same H H' → Q (.bl (hasFit t)) H'
section
variable {P : Program} {w : World} {K : PySem.W.Frag} {mg : Str → Option Value} {base : Heap} {CR : Addr}
abbrev s_l_has_fit : Stmt := top 29
theorem sc_l_has_fit : FnScope ["tree", "inner"] ["tree"] (defScope s_l_has_fit) := ⟨rfl, rfl, rfl, by decide +kernel, rfl, by decide +kernel, by decide +kernel⟩

theorem ok_has {n : Nat} {f : Addr} {fd : FuncData} (F : Fun K "_law_has_fit" "_law_has_fit" s_l_has_fit f fd) (T : Txt K mg CR) (C__law_has_fit : CalX P w K mg base CX0 (n + 1) "_law_has_fit" (spHas n)) : FnOk P w K mg base CX0 (n + 2) f fd ["tree"] (spHas (n + 1)) := by
  refine F.ok sc_l_has_fit (fun vs H Q E h => ?_) (fun cdv A outer s H vs Q E hr h => ?_)
  · obtain ⟨v, t, rfl, _⟩ := h
    rfl
  obtain ⟨v, t, rfl, hv, ht, k⟩ := h
  have hr : Room (n + 1) _ := hr
  refine ⟨_, (pss_cons (ps_if (pt_cmpR op_eq (pe_ix ix_tup (pv 0) pe_int (fun _ _ => rfl)) pe_str (nomark _)) (pss_one (ps_ret (pe_cmpR op_gt (pe_callB call_len_seq (by rfl) T.z_len b_len (pa_cons (pe_lc (own := [("inner", 1)]) (g := gName 1) (by rfl) sc_l_has_fit.nd (pi_tup (pe_ix ix_tup (pv 0) pe_int (fun _ _ => rfl))) (blkOk_by (own := [("inner", 1)]) (N := ["tree", "inner"]) (sc := defScope s_l_has_fit) (by decide +kernel)) (fun _ _ _ _ _ => pg_name (i := 1) sc_l_has_fit.nd rfl (Or.inl rfl)) (fun _ _ _ _ _ => pts_one (pt_val (pe_u C__law_has_fit hr (by omega) pass0 (pa_cons (pv 1) pa_nil)))) (fun _ _ _ _ _ => (pv 1))) pa_nil)) pe_int (nomark _)))) pss_nil)
    (pss_one (ps_ret (pe_cmpR op_eq (pe_ix ix_tup (pv 0) pe_int (fun _ _ => rfl)) pe_str (nomark _))))), ?_⟩
  cases t with
  | non => exact absurd ht id
  | bad1 x => exact absurd ht id
  | fits =>
    obtain ⟨q, xs, rfl, hq, hx⟩ := hv.inv
    cases hx with
    | cons h1 h2 =>
      cases h2
      cases h1
      have e : decide (V.str "fits" = V.str "fits") = hasFit .fits := by rw [hasFit]; decide +kernel
      have := k H (Same.refl H)
      rw [← e] at this
      exact ⟨_, rfl, q, _, _, _, rfl, rfl, SqT.of hq, rfl, rfl, _, rfl, ifF (by decide +kernel) ⟨_, rfl, q, _, _, _, rfl, rfl, SqT.of hq, rfl, rfl, this⟩⟩
  | bad a b =>
    obtain ⟨q, xs, rfl, hq, hx⟩ := hv.inv
    cases hx with
    | cons h1 h2 =>
      cases h1
      rename_i vs0
      have z0 : atI (V.str "bad" :: vs0) 0 = some (V.str "bad") := atI_nat (j := 0) rfl
      have e : decide (V.str "bad" = V.str "fits") = hasFit (.bad a b) := by rw [hasFit]; decide +kernel
      have := k H (Same.refl H)
      rw [← e] at this
      exact ⟨_, rfl, q, _, _, _, rfl, rfl, SqT.of hq, z0, rfl, _, rfl, ifF (by decide +kernel) ⟨_, rfl, q, _, _, _, rfl, rfl, SqT.of hq, z0, rfl, this⟩⟩
  | try_ ts =>
    obtain ⟨h0, h3, hts⟩ := ht
    obtain ⟨q, xs, rfl, hq, hx⟩ := hv.inv
    cases hx with
    | cons h1 h2 =>
      cases h2 with
      | cons h5 h4 =>
        cases h4
        cases h1
        obtain ⟨qs, vs, rfl, hqs, hvs⟩ := h5.inv
        have hvl := hvs.length
        rw [das_map, List.length_map] at hvl
        rw [das_map] at hvs
        refine ⟨_, rfl, q, _, _, _, rfl, rfl, SqT.of hq, rfl, rfl, _, rfl, ifT (by decide +kernel) ?_⟩
        refine ⟨_, rfl, q, _, _, _, rfl, rfl, SqT.of hq, rfl, qs, rfl, ⟨_, SqT.of hqs⟩, fun D hD => ?_⟩
        refine lc_tup (K := K) (a := qs) (xs := vs) (fun j H2 => Same H H2 ∧ ∃ us, H2 D = some (.lst us) ∧ us.length ≤ j ∧ (0 < us.length ↔ ∃ t ∈ ts.take j, hasFit t = true)) ⟨Same.upd hD, [], upd_same, Nat.le_refl _, by simp⟩ (fun j H2 _ h => SqT.of (h.1 _ _ hqs)) (fun j x H2 hx2 h => ?_) (fun H2 h => ?_)
        · obtain ⟨s2, us, e2, l2, m2⟩ := h
          have hj : j < ts.length := by have := (List.getElem?_eq_some_iff.mp hx2).1; omega
          obtain ⟨pd, hpd, dv⟩ := hvs.get hx2
          rw [List.getElem?_map, List.getElem?_eq_getElem hj] at hpd
          obtain rfl := Option.some.inj hpd
          obtain ⟨n, rfl⟩ : ∃ n', n = n' + 1 := ⟨n - 1, by
            cases n with
            | zero => exact absurd (hts _ (List.getElem_mem hj)) id
            | succ n => rfl⟩
          have tk : ts.take (j + 1) = ts.take j ++ [ts[j]] := by rw [List.take_succ, List.getElem?_eq_getElem hj]; rfl
          refine ⟨rfl, _, rfl, x, ts[j], rfl, dv.mono (same_tp s2), hts _ (List.getElem_mem hj), fun H3 s3 => ⟨_, rfl, ?_⟩⟩
          have e3 := s3 _ _ e2
          refine ite2 (fun c => ?_) (fun c => ?_)
          · refine ⟨_, rfl, us, e3, small1000 (by omega), ?_, us ++ [x], upd_same, by rw [List.length_append, List.length_singleton]; omega, ?_⟩
            · intro b o e
              rw [upd_ne (ne_of_none e hD)]; exact s3 _ _ (s2 _ _ e)
            · rw [tk]
              refine ⟨fun _ => ⟨ts[j], List.mem_append_right _ (List.mem_singleton.mpr rfl), c⟩, fun _ => by rw [List.length_append, List.length_singleton]; omega⟩
          · refine ⟨s2.trans s3, us, e3, by omega, ?_⟩
            rw [m2, tk]
            refine ⟨fun ⟨t, h, e⟩ => ⟨t, List.mem_append_left _ h, e⟩, fun ⟨t, h, e⟩ => ⟨t, (List.mem_append.mp h).resolve_right fun z => c (by rw [← List.mem_singleton.mp z]; exact e), e⟩⟩
        · obtain ⟨s2, us, e2, l2, m2⟩ := h
          rw [hvl, List.take_length] at m2
          refine ⟨D, _, rfl, .inl (SqL.of e2), _, _, rfl, rfl, ?_⟩
          have e : decide ((us.length : Int) > 0) = hasFit (.try_ ts) := by
            rw [has_try, Bool.eq_iff_iff, hasFits_iff, ← m2, decide_eq_true_eq]
            omega
          have := k H2 s2
          rw [← e] at this
          exact this
end
end Toy

set_option Elab.async false
set_option linter.all false
set_option maxRecDepth 100000
set_option maxHeartbeats 4000000
namespace Toy
open PySem L2
def spWrong : Nat → Sp
  | 0 => fun _ _ _ _ => False
  | n + 1 => fun vs H Q _ => ∃ d l ns v t, vs = [.ref d, v] ∧ Dr H d l ns ∧ DV H v t.da ∧ Ht (n + 1) t ∧ hasFit t = false ∧
    ∀ (p : Addr) (H' : Hp) (us : List V) (ts : List Tr), p ≠ d → Keep d H H' → Dr H' d l ns → H' p = some (.lst us) → DVs H' us (ts.map Tr.da) → ts.length = 5 → (∀ t' ∈ ts, Wr t t') → Q (.ref p) H'
theorem da_try (ts : List Tr) : (Tr.try_ ts).da = .tup [.str "try", .tup (ts.map Tr.da)] := by rw [Tr.da, das_map]
theorem da_bad (a b : List Nat) : (Tr.bad a b).da = .tup [.str "bad", wd a, wd b] := by rw [Tr.da]
theorem da_bad1 (a : List Nat) : (Tr.bad1 a).da = .tup [.str "bad", wd a] := by rw [Tr.da]
theorem wd_nil : wd [] = .tup [] := rfl
section
variable {P : Program} {w : World} {K : PySem.W.Frag} {mg : Str → Option Value} {base : Heap} {CR : Addr}
abbrev s_l_wrong : Stmt := top 30
theorem sc_l_wrong : FnScope ["d", "tree", "at", "inner", "found"] ["d", "tree"] (defScope s_l_wrong) := ⟨rfl, rfl, rfl, by decide +kernel, rfl, by decide +kernel, by decide +kernel⟩

theorem ok_wrong {n : Nat} {f : Addr} {fd : FuncData} (F : Fun K "_law_wrong" "_law_wrong" s_l_wrong f fd) (T : Txt K mg CR) (C__law_draw : CalX P w K mg base CX0 1 "_law_draw" spDraw) (C__law_pick : CalX P w K mg base CX0 2 "_law_pick" spPick) (C__law_wrong : CalX P w K mg base CX0 (n + 2) "_law_wrong" (spWrong n)) : FnOk P w K mg base CX0 (n + 3) f fd ["d", "tree"] (spWrong (n + 1)) := by
  refine F.ok sc_l_wrong (fun vs H Q E h => ?_) (fun cdv A outer s H vs Q E hr h => ?_)
  · obtain ⟨d, l, ns, v, t, rfl, _⟩ := h
    rfl
  obtain ⟨d, l, ns, v, t, rfl, D0, hv, ht, hf, k⟩ := h
  have hr : Room (n + 2) _ := hr
  refine ⟨_, (pss_cons (ps_if (pt_cmpR op_eq (pe_ix ix_tup (pv 1) pe_int (fun _ _ => rfl)) pe_str (nomark _)) (pss_one (ps_ret (pe_lst (pa_cons (pe_tup (pa_cons pe_str (pa_cons (pe_tup (pa_cons (pv 1) pa_nil)) pa_nil))) (pa_cons (pe_tup (pa_cons pe_str (pa_cons (pe_ix ix_tup (pv 1) pe_int (fun _ _ => rfl)) (pa_cons (pe_ix ix_tup (pv 1) pe_int (fun _ _ => rfl)) pa_nil)))) (pa_cons (pe_tup (pa_cons pe_str (pa_cons (pe_ix ix_tup (pv 1) pe_int (fun _ _ => rfl)) pa_nil))) (pa_cons pe_non (pa_cons (pe_tup (pa_cons pe_str (pa_cons (pe_tup pa_nil) pa_nil))) pa_nil)))))))) pss_nil)
    (pss_cons (ps_set (i := 2) sc_l_wrong.nd rfl (Or.inl rfl) (pe_u C__law_draw hr (by omega) pass0 (pa_cons (pv 0) (pa_cons (pe_callB call_len_seq (by rfl) T.z_len b_len (pa_cons (pe_ix ix_tup (pv 1) pe_int (fun _ _ => rfl)) pa_nil)) pa_nil))))
    (pss_cons (ps_set (i := 3) sc_l_wrong.nd rfl (Or.inl rfl) (pe_u C__law_pick hr (by omega) pass0 (pa_cons (pv 0) (pa_cons (pe_u C__law_wrong hr (by omega) pass0 (pa_cons (pv 0) (pa_cons (pe_ix ix_tup (pe_ix ix_tup (pv 1) pe_int (fun _ _ => rfl)) (pv 2) (fun _ _ => rfl)) pa_nil))) pa_nil))))
    (pss_cons (ps_set (i := 4) sc_l_wrong.nd rfl (Or.inl rfl) (pe_lst (pa_cons (pe_tup (pa_cons pe_str (pa_cons (pe_slice sl_tupB (pe_ix ix_tup (pv 1) pe_int (fun _ _ => rfl)) po_none (po_some (pe_un un_neg pe_int))) pa_nil))) (pa_cons (pe_tup (pa_cons pe_str (pa_cons (pe_op op_catB (pe_ix ix_tup (pv 1) pe_int (fun _ _ => rfl)) (pe_slice sl_tupB (pe_ix ix_tup (pv 1) pe_int (fun _ _ => rfl)) po_none (po_some pe_int))) pa_nil))) (pa_cons (pe_tup (pa_cons pe_str (pa_cons (pe_op op_catB (pe_op op_catB (pe_slice sl_tupB (pe_ix ix_tup (pv 1) pe_int (fun _ _ => rfl)) po_none (po_some (pv 2))) (pe_tup (pa_cons (pv 3) pa_nil))) (pe_slice sl_tupB (pe_ix ix_tup (pv 1) pe_int (fun _ _ => rfl)) (po_some (pe_op op_add (pv 2) pe_int)) po_none)) pa_nil))) pa_nil)))))
    (pss_one (ps_ret (pe_op op_cat (pv 4) (pe_lst (pa_cons (pe_tup (pa_cons pe_str (pa_cons (pe_tup pa_nil) (pa_cons (pe_tup pa_nil) pa_nil)))) (pa_cons pe_non pa_nil)))))))))), ?_⟩
  cases t with
  | non => exact absurd ht id
  | bad1 x => exact absurd ht id
  | fits => exact absurd hf (by rw [hasFit]; decide)
  | bad a b =>
    have hv0 := hv
    obtain ⟨q, xs, rfl, hq, hx⟩ := hv.inv
    cases hx with
    | cons h1 h2 =>
      cases h2 with
      | cons h3 h4 =>
        cases h4 with
        | cons h5 h6 =>
          cases h6
          cases h1
          refine ⟨_, rfl, q, _, _, _, rfl, rfl, SqT.of hq, rfl, rfl, _, rfl, ifT (by decide +kernel) ?_⟩
          refine ⟨_, rfl, by show 1 ≤ sizeLine; decide, fun t1 ht1 => ⟨by show 2 ≤ sizeLine; decide, fun t2 ht2 => ?_⟩⟩
          have w1 : Same H (upd (upd H t1 (.tup [.ref q])) t2 (.tup [.str "try", .ref t1])) := (Same.upd ht1).trans (Same.upd ht2)
          have n12 : t1 ≠ t2 := fun z => by rw [← z, upd_same] at ht2; cases ht2
          have v1 : DV (upd (upd H t1 (.tup [.ref q])) t2 (.tup [.str "try", .ref t1])) (.ref t2) (Tr.try_ [.bad a b]).da := by
            rw [da_try]
            exact .tup upd_same (.cons (.str _) (.cons (.tup (by rw [upd_ne n12, upd_same]) (.cons (hv0.mono (same_tp w1)) .nil)) .nil))
          generalize upd (upd H t1 (.tup [.ref q])) t2 (.tup [.str "try", .ref t1]) = H1 at w1 v1 ⊢
          refine ⟨_, rfl, q, _, _, _, rfl, rfl, SqT.of (w1 _ _ hq), rfl, _, rfl, q, _, _, _, rfl, rfl, SqT.of (w1 _ _ hq), rfl, by show 3 ≤ sizeLine; decide, fun t3 ht3 => ?_⟩
          have g3 := same_tp w1
          rename_i va vb
          have v2 : DV (upd H1 t3 (.tup [.str "bad", vb, va])) (.ref t3) (Tr.bad b a).da := by
            rw [da_bad]
            exact .tup upd_same (.cons (.str _) (.cons ((h5.mono g3).mono (tups_new ht3)) (.cons ((h3.mono g3).mono (tups_new ht3)) .nil)))
          have w2 := w1.trans (Same.upd (o := .tup [.str "bad", vb, va]) ht3)
          have v1 := v1.mono (tups_new (o := .tup [.str "bad", vb, va]) ht3)
          generalize upd H1 t3 (.tup [.str "bad", vb, va]) = H2 at w2 v1 v2 ⊢
          refine ⟨_, rfl, q, _, _, _, rfl, rfl, SqT.of (w2 _ _ hq), rfl, by show 2 ≤ sizeLine; decide, fun t4 ht4 => ?_⟩
          have v3 : DV (upd H2 t4 (.tup [.str "bad", va])) (.ref t4) (Tr.bad1 a).da := by
            rw [da_bad1]
            exact .tup upd_same (.cons (.str _) (.cons ((h3.mono (same_tp w2)).mono (tups_new ht4)) .nil))
          have w3 := w2.trans (Same.upd (o := .tup [.str "bad", va]) ht4)
          have v1 := v1.mono (tups_new (o := .tup [.str "bad", va]) ht4)
          have v2 := v2.mono (tups_new (o := .tup [.str "bad", va]) ht4)
          generalize upd H2 t4 (.tup [.str "bad", va]) = H3 at w3 v1 v2 v3 ⊢
          refine ⟨by show 0 ≤ sizeLine; decide, fun t5 ht5 => ⟨by show 2 ≤ sizeLine; decide, fun t6 ht6 => ?_⟩⟩
          have n56 : t5 ≠ t6 := fun z => by rw [← z, upd_same] at ht6; cases ht6
          have w5 : Same H3 (upd (upd H3 t5 (.tup [])) t6 (.tup [.str "try", .ref t5])) := (Same.upd ht5).trans (Same.upd ht6)
          have v5 : DV (upd (upd H3 t5 (.tup [])) t6 (.tup [.str "try", .ref t5])) (.ref t6) (Tr.try_ []).da := by
            rw [da_try]
            exact .tup upd_same (.cons (.str _) (.cons (.tup (by rw [upd_ne n56, upd_same]) .nil) .nil))
          have w5' := w3.trans w5
          have v1 := v1.mono (same_tp w5)
          have v2 := v2.mono (same_tp w5)
          have v3 := v3.mono (same_tp w5)
          generalize upd (upd H3 t5 (.tup [])) t6 (.tup [.str "try", .ref t5]) = H4 at w5' v1 v2 v3 v5 ⊢
          refine ⟨by show 5 ≤ sizeLine; decide, fun p hp => ?_⟩
          have D4 := D0.same w5'
          have pn := D4.new hp
          have tp := tups_new (o := .lst [.ref t2, .ref t3, .ref t4, .non, .ref t6]) hp
          refine k p _ _ [.try_ [.bad a b], .bad b a, .bad1 a, .non, .try_ []] pn.1 (w5'.trans (Same.upd hp)).keep (D4.upd2 pn.1 pn.2) upd_same (.cons (v1.mono tp) (.cons (v2.mono tp) (.cons (v3.mono tp) (.cons (by rw [Tr.da]; exact .non) (.cons (v5.mono tp) .nil))))) rfl ?_
          intro t' ht'
          simp only [List.mem_cons, List.not_mem_nil, or_false] at ht'
          rcases ht' with rfl | rfl | rfl | rfl | rfl
          · exact .b1
          · exact .b2
          · exact .b3
          · exact .b4
          · exact .b5
  | try_ ts =>
    obtain ⟨h0, h3, hts⟩ := ht
    rw [has_try] at hf
    rw [da_try] at hv
    obtain ⟨q, xs, rfl, hq, hx⟩ := hv.inv
    cases hx with
    | cons h1 h2 =>
      cases h2 with
      | cons h5 h4 =>
        cases h4
        cases h1
        obtain ⟨qs, vs, rfl, hqs, hvs⟩ := h5.inv
        have hvl := hvs.length
        rw [List.length_map] at hvl
        refine ⟨_, rfl, q, _, _, _, rfl, rfl, SqT.of hq, rfl, rfl, _, rfl, ifF (by decide +kernel) ?_⟩
        refine ⟨_, rfl, _, rfl, q, _, _, _, rfl, rfl, SqT.of hq, rfl, qs, _, rfl, .inr (SqT.of hqs), d, l, ns, _, rfl, D0, by omega, by omega, fun r H1 r0 r1 k1 D1 => ?_⟩
        have tp1 := D0.tups k1
        have hq1 := tp1 _ _ hq
        have hqs1 := tp1 _ _ hqs
        have hri : r.toNat < ts.length := by omega
        obtain ⟨i, rfl⟩ : ∃ i : Nat, r = ((i : Nat) : Int) := ⟨r.toNat, by omega⟩
        have hi : i < ts.length := by omega
        obtain ⟨vi, hvi, dvi⟩ := hvs.at (i := i) (p := ts[i].da) (by rw [List.getElem?_map, List.getElem?_eq_getElem hi]; rfl)
        obtain ⟨n, rfl⟩ : ∃ n', n = n' + 1 := ⟨n - 1, by
          cases n with
          | zero => exact absurd (hts _ (List.getElem_mem hi)) id
          | succ n => rfl⟩
        have hfi : hasFit ts[i] = false := by
          cases c : hasFit ts[i] with
          | false => rfl
          | true => rw [(hasFits_iff ts).mpr ⟨_, List.getElem_mem hi, c⟩] at hf; cases hf
        refine ⟨_, rfl, _, rfl, _, rfl, q, _, _, _, rfl, rfl, SqT.of hq1, rfl, _, rfl, qs, _, _, _, rfl, rfl, SqT.of hqs1, atI_nat hvi, d, l, ns, vi, ts[i], rfl, D1, dvi.mono tp1, hts _ (List.getElem_mem hi), hfi, fun p H2 us tr pd k2 D2 hp dus tl wr => ?_⟩
        have dul := dus.length
        rw [List.length_map] at dul
        refine ⟨d, l, p, ns, us, rfl, D2, pd, hp, fun z => by rw [z] at dul; simp at dul; omega, by omega, fun x H3 hx3 k3 D3 => ?_⟩
        obtain ⟨j, hj, rfl⟩ := List.getElem_of_mem hx3
        obtain ⟨pdx, hpdx, dx⟩ := dus.get (List.getElem?_eq_getElem hj)
        rw [List.getElem?_map] at hpdx
        obtain ⟨tj, htj, rfl⟩ := Option.map_eq_some_iff.mp hpdx
        have wrj := wr tj (List.mem_of_getElem? htj)
        have dx3 := dx.mono (D2.tups k3)
        generalize us[j] = x at dx3 ⊢
        have k13 := (k1.trans k2).trans k3
        have tp3 := D0.tups k13
        have hq3 := tp3 _ _ hq
        have hqs3 := tp3 _ _ hqs
        have hvs3 := hvs.mono tp3
        clear dx dus hp k2 k3 D2 D1 k1 tp1 hq1 hqs1
        -- one less
        refine ⟨_, rfl, q, _, _, _, rfl, rfl, SqT.of hq3, rfl, _, rfl, _, rfl, qs, _, rfl, hqs3, fun b1 H4 s4 hb1 => ⟨by show 2 ≤ sizeLine; decide, fun t1 ht1 => ?_⟩⟩
        have s5 : Same H3 (upd H4 t1 (.tup [.str "try", .ref b1])) := s4.trans (Same.upd ht1)
        have v1 : DV (upd H4 t1 (.tup [.str "try", .ref b1])) (.ref t1) (Tr.try_ ts.dropLast).da := by
          rw [da_try, List.map_dropLast]
          rw [show (-(1 : Int)) = -1 by rfl, cutV_last] at hb1
          refine .tup upd_same (.cons (.str _) (.cons (.tup ((tups_new ht1) _ _ hb1) ?_) .nil))
          have := (hvs3.mono (same_tp s5)).take (vs.length - 1)
          rw [List.dropLast_eq_take, List.dropLast_eq_take, List.length_map, ← hvl]
          exact this
        generalize upd H4 t1 (.tup [.str "try", .ref b1]) = H5 at s5 v1 ⊢
        -- one more
        refine ⟨_, rfl, q, _, _, _, rfl, rfl, SqT.of (s5 _ _ hq3), rfl, _, rfl, q, _, _, _, rfl, rfl, SqT.of (s5 _ _ hq3), rfl, _, rfl, qs, _, rfl, s5 _ _ hqs3, fun b2 H6 s6 hb2 => ?_⟩
        refine ⟨qs, b2, vs, _, rfl, rfl, s6 _ _ (s5 _ _ hqs3), hb2, ?_, fun b3 H7 s7 hb3 => ⟨by show 2 ≤ sizeLine; decide, fun t2 ht2 => ?_⟩⟩
        · rw [show (1 : Int) = ((1 : Nat) : Int) by rfl, cutV_to, List.length_take]
          exact Nat.le_of_lt (small1000 (by omega))
        have s8 : Same H3 (upd H7 t2 (.tup [.str "try", .ref b3])) := ((s5.trans s6).trans s7).trans (Same.upd ht2)
        have v2 : DV (upd H7 t2 (.tup [.str "try", .ref b3])) (.ref t2) (Tr.try_ (ts ++ ts.take 1)).da := by
          rw [da_try, List.map_append, List.map_take]
          rw [show (1 : Int) = ((1 : Nat) : Int) by rfl, cutV_to] at hb3
          refine .tup upd_same (.cons (.str _) (.cons (.tup ((tups_new ht2) _ _ hb3) ?_) .nil))
          have := hvs3.mono (same_tp s8)
          exact this.append (this.take 1)
        have v1 := v1.mono (same_tp ((s6.trans s7).trans (Same.upd (o := .tup [.str "try", .ref b3]) ht2)))
        generalize upd H7 t2 (.tup [.str "try", .ref b3]) = H8 at s8 v1 v2 ⊢
        -- one other
        refine ⟨_, rfl, q, _, _, _, rfl, rfl, SqT.of (s8 _ _ hq3), rfl, _, rfl, _, rfl, qs, _, rfl, s8 _ _ hqs3, fun b4 H9 s9 hb4 => ?_⟩
        refine ⟨_, rfl, by show 1 ≤ sizeLine; decide, fun t3 ht3 => ?_⟩
        have s10 : Same H8 (upd H9 t3 (.tup [x])) := s9.trans (Same.upd ht3)
        have hb4' : upd H9 t3 (.tup [x]) b4 = _ := (tups_new ht3) _ _ hb4
        have h3' : upd H9 t3 (.tup [x]) t3 = some (.tup [x]) := upd_same
        generalize upd H9 t3 (.tup [x]) = H10 at s10 hb4' h3' ⊢
        rw [cutV_to] at hb4'
        refine ⟨b4, t3, _, _, rfl, rfl, hb4', h3', ?_, fun b5 H11 s11 hb5 => ?_⟩
        · rw [List.length_take, List.length_singleton]
          exact Nat.le_of_lt (small1000 (by omega))
        have s311 := (s8.trans s10).trans s11
        refine ⟨_, rfl, q, _, _, _, rfl, rfl, SqT.of (s311 _ _ hq3), rfl, _, rfl, _, _, rfl, rfl, _, rfl, qs, _, rfl, s311 _ _ hqs3, fun b6 H12 s12 hb6 => ?_⟩
        rw [show ((i : Nat) : Int) + 1 = ((i + 1 : Nat) : Int) by omega, cutV_from] at hb6
        refine ⟨b5, b6, _, _, rfl, rfl, s12 _ _ hb5, hb6, ?_, fun b7 H13 s13 hb7 => ⟨by show 2 ≤ sizeLine; decide, fun t4 ht4 => ?_⟩⟩
        · simp only [List.length_append, List.length_take, List.length_drop, List.length_singleton]
          exact Nat.le_of_lt (small1000 (by omega))
        have s14 : Same H8 (upd H13 t4 (.tup [.str "try", .ref b7])) := (((s10.trans s11).trans s12).trans s13).trans (Same.upd ht4)
        have s314 := s8.trans s14
        have v3 : DV (upd H13 t4 (.tup [.str "try", .ref b7])) (.ref t4) (Tr.try_ (ts.take i ++ [tj] ++ ts.drop (i + 1))).da := by
          rw [da_try, List.map_append, List.map_append, List.map_take, List.map_drop]
          refine .tup upd_same (.cons (.str _) (.cons (.tup ((tups_new ht4) _ _ hb7) ?_) .nil))
          have := hvs3.mono (same_tp s314)
          exact ((this.take i).append (.cons (dx3.mono (same_tp s314)) .nil)).append (this.drop (i + 1))
        have v1 := v1.mono (same_tp s14)
        have v2 := v2.mono (same_tp s14)
        generalize upd H13 t4 (.tup [.str "try", .ref b7]) = H14 at s14 s314 v1 v2 v3 ⊢
        refine ⟨by show 3 ≤ sizeLine; decide, fun p1 hp1 => ?_⟩
        have sp1 := Same.upd (o := .lst [.ref t1, .ref t2, .ref t4]) hp1
        have s15 := s314.trans sp1
        have v1 := v1.mono (same_tp sp1)
        have v2 := v2.mono (same_tp sp1)
        have v3 := v3.mono (same_tp sp1)
        have h15 : upd H14 p1 (.lst [.ref t1, .ref t2, .ref t4]) p1 = some (.lst [.ref t1, .ref t2, .ref t4]) := upd_same
        generalize upd H14 p1 (.lst [.ref t1, .ref t2, .ref t4]) = H15 at s15 v1 v2 v3 h15 ⊢
        refine ⟨_, rfl, by show 0 ≤ sizeLine; decide, fun e1 he1 => ⟨by show 0 ≤ sizeLine; decide, fun e2 he2 => ⟨by show 3 ≤ sizeLine; decide, fun e3 he3 => ?_⟩⟩⟩
        have n12 : e1 ≠ e2 := fun z => by rw [← z, upd_same] at he2; cases he2
        have n13 : e1 ≠ e3 := fun z => by rw [← z, upd_ne n12, upd_same] at he3; cases he3
        have n23 : e2 ≠ e3 := fun z => by rw [← z, upd_same] at he3; cases he3
        have s16 : Same H15 (upd (upd (upd H15 e1 (.tup [])) e2 (.tup [])) e3 (.tup [.str "bad", .ref e1, .ref e2])) := ((Same.upd he1).trans (Same.upd he2)).trans (Same.upd he3)
        have v4 : DV (upd (upd (upd H15 e1 (.tup [])) e2 (.tup [])) e3 (.tup [.str "bad", .ref e1, .ref e2])) (.ref e3) (Tr.bad [] []).da := by
          rw [da_bad, wd_nil]
          exact .tup upd_same (.cons (.str _) (.cons (.tup (by rw [upd_ne n13, upd_ne n12, upd_same]) .nil) (.cons (.tup (by rw [upd_ne n23, upd_same]) .nil) .nil)))
        generalize upd (upd (upd H15 e1 (.tup [])) e2 (.tup [])) e3 (.tup [.str "bad", .ref e1, .ref e2]) = H16 at s16 v4 ⊢
        refine ⟨by show 2 ≤ sizeLine; decide, fun p2 hp2 => ?_⟩
        have sp2 := Same.upd (o := .lst [.ref e3, .non]) hp2
        have s17 := s16.trans sp2
        have h17 : upd H16 p2 (.lst [.ref e3, .non]) p2 = some (.lst [.ref e3, .non]) := upd_same
        have v4 := v4.mono (same_tp sp2)
        generalize upd H16 p2 (.lst [.ref e3, .non]) = H17 at s17 h17 v4 ⊢
        refine ⟨p1, p2, _, _, rfl, rfl, s17 _ _ h15, h17, by show 5 ≤ sizeLine; decide, fun p3 hp3 => ?_⟩
        have sp3 := Same.upd (o := .lst ([.ref t1, .ref t2, .ref t4] ++ [.ref e3, .non])) hp3
        have sA := (s15.trans s17).trans sp3
        have DA := D3.same sA
        have s178 := same_tp (s17.trans sp3)
        have tp3 := same_tp sp3
        have pn := (D3.same (s15.trans s17)).new hp3
        refine k p3 _ _ [.try_ ts.dropLast, .try_ (ts ++ ts.take 1), .try_ (ts.take i ++ [tj] ++ ts.drop (i + 1)), .bad [] [], .non] pn.1 (k13.trans sA.keep) DA upd_same (.cons (v1.mono s178) (.cons (v2.mono s178) (.cons (v3.mono s178) (.cons (v4.mono tp3) (.cons (by rw [Tr.da]; exact .non) .nil))))) rfl ?_
        intro t' ht'
        simp only [List.mem_cons, List.not_mem_nil, or_false] at ht'
        rcases ht' with rfl | rfl | rfl | rfl | rfl
        · exact .t1
        · exact .t2
        · exact .t3 (List.getElem?_eq_getElem hi) wrj
        · exact .t4
        · exact .t5
end
end Toy

set_option Elab.async false
set_option linter.all false
set_option maxRecDepth 100000
set_option maxHeartbeats 4000000
namespace Toy
open PySem L2
/-! the law's search of all full watchers -/
def iv (l : List Nat) : List V := l.map fun c : Nat => V.int (c : Int)
theorem smp_lc {K : PySem.W.Frag} {σ : St} {H : Hp} {cr : Addr} {rs : List V} {R : List (List Nat)} (lab i j : Nat) {Q : VK} (hj : σ[j]? = some (some (.ref cr))) (hcr : H cr = some (.tup rs)) (hrs : DVs H rs (R.map wd)) (hl : R.length ≤ 900) (hi : i < σ.length)
    (k : ∀ D H2 us, H D = none → Same H H2 → H2 D = some (.lst us) → DVs H2 us ((R.map fun w => (w, lab)).map smD) → Q (.ref D) H2) : tLc (iTup K (tVar j)) (gName i) tYes (tTup (tCons (tVar i) (tCons (tC (.int ((lab : Nat) : Int))) tNil))) [i] σ H Q := by
  have hrl := hrs.length
  rw [List.length_map] at hrl
  refine ⟨_, hj, cr, rfl, ⟨_, SqT.of hcr⟩, fun D hD => ?_⟩
  refine lc_tup (K := K) (a := cr) (xs := rs) (fun n H2 => Same H H2 ∧ ∃ us, H2 D = some (.lst us) ∧ DVs H2 us (((R.take n).map fun w => (w, lab)).map smD)) ⟨Same.upd hD, [], upd_same, .nil⟩ (fun _ H2 _ h => SqT.of (h.1 _ _ hcr)) (fun n x H2 hx h => ?_) (fun H2 h => ?_)
  · obtain ⟨s2, us, e2, d2⟩ := h
    obtain ⟨pd, hpd, dx⟩ := hrs.get hx
    rw [List.getElem?_map] at hpd
    obtain ⟨w0, hw0, rfl⟩ := Option.map_eq_some_iff.mp hpd
    have dx2 := dx.mono (same_tp s2)
    have hn : n < R.length := (List.getElem?_eq_some_iff.mp hw0).1
    refine ⟨?_, ?_⟩
    · simp only [wipe]
      refine List.ext_getElem? fun q => ?_
      simp only [List.getElem?_set, List.length_set]
      by_cases h1 : i = q
      · subst h1; simp
      · simp [h1]
    · simp only [tYes, if_true]
      refine ⟨x, ?_, by show 2 ≤ sizeLine; decide, fun t ht => ⟨us, ?_, ?_, ?_⟩⟩
      · simp only [wipe, List.getElem?_set, List.length_set]
        simp [hi]
      · rw [upd_ne (ne_of_none e2 ht)]; exact e2
      · have := d2.length
        rw [List.length_map, List.length_map, List.length_take] at this
        exact small1000 (by omega)
      · have tp : Tups H2 (upd (upd H2 t (.tup [x, .int ((lab : Nat) : Int)])) D (.lst (us ++ [V.ref t]))) :=
          (tups_new ht).trans (tups_upd fun xs e => by rw [upd_ne (ne_of_none e2 ht), e2] at e; cases e)
        have tD : t ≠ D := fun z => by rw [z, e2] at ht; cases ht
        refine ⟨fun b o e => ?_, _, upd_same, ?_⟩
        · rw [upd_ne (ne_of_none e hD), upd_ne (ne_of_none (s2 _ _ e) ht)]
          exact s2 _ _ e
        · rw [List.take_succ, hw0, List.map_append, List.map_append]
          exact (d2.mono tp).snoc (.tup (by rw [upd_ne tD, upd_same]) (.cons (dx2.mono tp) (.cons (.int _) .nil)))
  · obtain ⟨s2, us, e2, d2⟩ := h
    rw [hrl, List.take_length] at d2
    exact k D H2 us hD s2 e2 d2
theorem smD_smp (R W : List (List Nat)) : (R.map fun w => (w, 1)).map smD ++ (W.map fun w => (w, 0)).map smD = (smp R W).map smD := by
  unfold smp
  rw [List.map_append]
theorem smp_len (R W : List (List Nat)) : (smp R W).length = R.length + W.length := by unfold smp; simp
theorem smp_bin {R W : List (List Nat)} (bR : Bin R) (bW : Bin W) : ∀ x ∈ smp R W, ∀ c ∈ x.1, c < 2 := fun x hx => by
  rcases smp_mem.mp hx with h | h
  · exact bR _ h.1
  · exact bW _ h.1
theorem smp_lab {R W : List (List Nat)} : ∀ x ∈ smp R W, x.2 < 2 := fun x hx => by
  rcases smp_mem.mp hx with h | h
  · rw [h.2]; decide
  · rw [h.2]; decide
/-- the rows of a code -/
def dgs (m c : Nat) : List Nat := (digN m c (2 * m)).reverse
def gd (dg : List Nat) (r c : Nat) : Nat := dg.getD (2 * r + c) 0
def enN (me : List (Key × V)) (r : Nat) : Nat := match valV me (Sum.inl ((r : Nat) : Int)) with
  | some (.int i) => i.toNat
  | _ => 0
def rwsN (m : Nat) (dg : List Nat) (me : List (Key × V)) : List Rw := (List.range m).map fun k => (enN me k, dg.getD (2 * k) 0, dg.getD (2 * k + 1) 0)
theorem digN_lt (b : Nat) (hb : 0 < b) : ∀ (n m : Nat), ∀ x ∈ digN b m n, x < b
  | 0, m, x, h => nomatch h
  | n + 1, m, x, h => by
    rw [digN] at h
    rcases List.mem_cons.mp h with rfl | h
    · exact Nat.mod_lt _ hb
    · exact digN_lt b hb n _ x h
theorem dgs_len (m c : Nat) : (dgs m c).length = 2 * m := by unfold dgs; rw [List.length_reverse, digN_len]
theorem dgs_lt {m c : Nat} (hm : 0 < m) : ∀ x ∈ dgs m c, x < m := fun x h => digN_lt m hm _ _ x (List.mem_reverse.mp h)
theorem getD_lt {l : List Nat} {m i : Nat} (h : ∀ x ∈ l, x < m) (m0 : 0 < m) : l.getD i 0 < m := by
  rw [List.getD_eq_getElem?_getD]
  cases e : l[i]? with
  | none => exact m0
  | some x => exact h x (List.mem_of_getElem? e)
theorem rwsN_len (m : Nat) (dg : List Nat) (me : List (Key × V)) : (rwsN m dg me).length = m := by unfold rwsN; rw [List.length_map, List.length_range]
theorem rwsN_get {m : Nat} {dg : List Nat} {me : List (Key × V)} {r : Nat} (h : r < m) : (rwsN m dg me).getD r (0, 0, 0) = (enN me r, dg.getD (2 * r) 0, dg.getD (2 * r + 1) 0) := by
  unfold rwsN
  rw [List.getD_eq_getElem?_getD, List.getElem?_map, List.getElem?_range h]
  rfl
theorem runT_lt {δ : Nat → Nat → Nat} {m : Nat} (h : ∀ r c, δ r c < m) : ∀ (w : List Nat) (r : Nat), r < m → runT δ r w < m
  | [], r, hr => hr
  | c :: w, r, _ => runT_lt h w _ (h r c)
theorem runT_snoc (δ : Nat → Nat → Nat) : ∀ (w : List Nat) (c r : Nat), runT δ r (w ++ [c]) = δ (runT δ r w) c
  | [], c, r => rfl
  | d :: w, c, r => by rw [List.cons_append, runT, runT, runT_snoc δ w c]
theorem walk_runT {m : Nat} {dg : List Nat} {me : List (Key × V)} (h : ∀ r c, gd dg r c < m) : ∀ (w : List Nat) (r : Nat), (∀ c ∈ w, c < 2) → r < m → walkRw (rwsN m dg me) r w = runT (gd dg) r w
  | [], r, _, _ => rfl
  | c :: w, r, hc, hr => by
    rw [walkRw, runT]
    have e : goRw (rwsN m dg me) r c = gd dg r c := by
      unfold goRw gd
      rw [rwsN_get hr]
      have := hc c List.mem_cons_self
      have : c = 0 ∨ c = 1 := by omega
      rcases this with rfl | rfl <;> rfl
    rw [e]
    exact walk_runT h w _ (fun c m => hc c (List.mem_cons_of_mem _ m)) (h r c)
theorem rws_fits {m : Nat} {dg : List Nat} {me : List (Key × V)} {R W : List (List Nat)} (m0 : 0 < m) (lt : ∀ x ∈ dg, x < m) (bR : Bin R) (bW : Bin W) (lab : ∀ (r : Nat) v, valV me (Sum.inl (r : Int)) = some v → ∃ q : Nat, q < 2 ∧ v = .int (q : Int))
    (ok : ∀ x ∈ smp R W, valV me (Sum.inl ((runT (gd dg) 0 x.1 : Nat) : Int)) = some (.int ((x.2 : Nat) : Int))) : fullB (rwsN m dg me) = true ∧ fitsB (rwsN m dg me) R W = true := by
  have h : ∀ r c, gd dg r c < m := fun r c => getD_lt lt m0
  refine ⟨?_, ?_⟩
  · unfold fullB
    rw [Bool.and_eq_true, List.all_eq_true, rwsN_len]
    refine ⟨?_, fun x hx => ?_⟩
    · cases e : rwsN m dg me with
      | nil => have := rwsN_len m dg me; rw [e] at this; simp at this; omega
      | cons _ _ => rfl
    · obtain ⟨r, _, rfl⟩ := List.mem_map.mp hx
      unfold rowB
      have e1 : enN me r < 2 := by
        unfold enN
        cases g : valV me (Sum.inl ((r : Nat) : Int)) with
        | none => decide
        | some v =>
          obtain ⟨q, q2, rfl⟩ := lab r v g
          exact q2
      have e2 := h r 0
      have e3 := h r 1
      unfold gd at e2 e3
      simp only [Bool.and_eq_true, decide_eq_true_eq]
      exact ⟨⟨e1, e2⟩, e3⟩
  · have en : ∀ x ∈ smp R W, endRw (rwsN m dg me) (walkRw (rwsN m dg me) 0 x.1) = x.2 := fun x hx => by
      rw [walk_runT h x.1 0 (smp_bin bR bW x hx) m0]
      unfold endRw
      rw [rwsN_get (runT_lt h _ _ m0)]
      unfold enN
      rw [ok x hx]
      rfl
    unfold fitsB
    rw [Bool.and_eq_true, List.all_eq_true, List.all_eq_true]
    exact ⟨fun w hw => decide_eq_true (en (w, 1) (smp_mem.mpr (.inl ⟨hw, rfl⟩))), fun w hw => decide_eq_true (en (w, 0) (smp_mem.mpr (.inr ⟨hw, rfl⟩)))⟩
theorem gd_get {dg : List Nat} {r c : Nat} (h : 2 * r + c < dg.length) : (dg.map fun c : Nat => V.int (c : Int))[2 * r + c]? = some (.int ((gd dg r c : Nat) : Int)) := by
  rw [List.getElem?_map, List.getElem?_eq_getElem h]
  unfold gd
  rw [List.getD_eq_getElem?_getD, List.getElem?_eq_getElem h]
  rfl
theorem enN_is {me : List (Key × V)} (lab : ∀ (r : Nat) v, valV me (Sum.inl (r : Int)) = some v → ∃ q : Nat, q < 2 ∧ v = .int (q : Int)) (r : Nat) : (valV me (Sum.inl ((r : Nat) : Int))).getD (.int 0) = .int ((enN me r : Nat) : Int) := by
  unfold enN
  cases g : valV me (Sum.inl ((r : Nat) : Int)) with
  | none => rfl
  | some v =>
    obtain ⟨q, _, rfl⟩ := lab r v g
    rfl
def spLFull : Sp := fun vs H Q _ => ∃ vr vw R W m, vs = [vr, vw, .int ((m : Nat) : Int)] ∧ DV H vr (.tup (R.map wd)) ∧ DV H vw (.tup (W.map wd)) ∧ Bin R ∧ Bin W ∧ R.length + W.length ≤ 900 ∧ 0 < m ∧ m ≤ 4 ∧
  (∀ H', Same H H' → Q .non H') ∧ ∀ v H' l, Same H H' → DV H' v (rwsD l) → l.length = m → fullB l = true → fitsB l R W = true → Q v H'
section
variable {P : Program} {w : World} {K : PySem.W.Frag} {mg : Str → Option Value} {base : Heap} {CR : Addr}
abbrev s_l_full : Stmt := top 31
theorem sc_l_full : FnScope ["right", "wrong", "many", "word", "samples", "code", "digits", "ends", "good", "label", "row", "cell", "k"] ["right", "wrong", "many"] (defScope s_l_full) := ⟨rfl, rfl, rfl, by decide +kernel, rfl, by decide +kernel, by decide +kernel⟩

theorem ok_lfull {f : Addr} {fd : FuncData} (F : Fun K "_law_full" "_law_full" s_l_full f fd) (T : Txt K mg CR) (C__law_power : CalX P w K mg base CX0 1 "_law_power" spPower) (C__law_digits : CalX P w K mg base CX0 1 "_law_digits" spDigits) : FnOk P w K mg base CX0 2 f fd ["right", "wrong", "many"] spLFull := by
  refine F.ok sc_l_full (fun vs H Q E h => ?_) (fun cdv A outer s H vs Q E hr h => ?_)
  · obtain ⟨vr, vw, R, W, m, rfl, _⟩ := h
    rfl
  obtain ⟨vr, vw, R, W, m, rfl, hR, hW, bR, bW, few, m0, m4, kn, kk⟩ := h
  obtain ⟨cr, rs, rfl, hcr, hrs⟩ := hR.inv
  obtain ⟨cw, us, rfl, hcw, hws⟩ := hW.inv
  refine ⟨_, (pss_cons (ps_set (i := 4) sc_l_full.nd rfl (Or.inl rfl) (pe_op op_cat (pe_lc (own := [("word", 3)]) (g := gName 3) (by rfl) sc_l_full.nd (pi_tup (pv 0)) (blkOk_by (own := [("word", 3)]) (N := ["right", "wrong", "many", "word", "samples", "code", "digits", "ends", "good", "label", "row", "cell", "k"]) (sc := defScope s_l_full) (by decide +kernel)) (fun _ _ _ _ _ => pg_name (i := 3) sc_l_full.nd rfl (Or.inl rfl)) (fun _ _ _ _ _ => pts_nil) (fun _ _ _ _ _ => (pe_tup (pa_cons (pv 3) (pa_cons pe_int pa_nil))))) (pe_lc (own := [("word", 3)]) (g := gName 3) (by rfl) sc_l_full.nd (pi_tup (pv 1)) (blkOk_by (own := [("word", 3)]) (N := ["right", "wrong", "many", "word", "samples", "code", "digits", "ends", "good", "label", "row", "cell", "k"]) (sc := defScope s_l_full) (by decide +kernel)) (fun _ _ _ _ _ => pg_name (i := 3) sc_l_full.nd rfl (Or.inl rfl)) (fun _ _ _ _ _ => pts_nil) (fun _ _ _ _ _ => (pe_tup (pa_cons (pv 3) (pa_cons pe_int pa_nil)))))))
    (pss_cons (ps_for PassesOwn.never rfl (pi_range1 (by rfl) T.z_range (pa_cons (pe_u C__law_power hr (by omega) pass0 (pa_cons (pv 2) (pa_cons (pe_op op_mul pe_int (pv 2)) pa_nil))) pa_nil)) (pg_name (i := 5) sc_l_full.nd rfl (Or.inl rfl)) (pss_cons (ps_set (i := 6) sc_l_full.nd rfl (Or.inr rfl) (pe_u C__law_digits hr (by omega) pass0 (pa_cons (pv 5) (pa_cons (pe_op op_mul pe_int (pv 2)) (pa_cons (pv 2) pa_nil)))))
    (pss_cons (ps_set (i := 7) sc_l_full.nd rfl (Or.inr rfl) pe_dnewK)
    (pss_cons (ps_set (i := 8) sc_l_full.nd rfl (Or.inl rfl) pe_bl)
    (pss_cons (ps_for PassesOwn.never rfl (pi_list (pv 4)) (pg_tup (by rfl) (pgs_cons (pg_name (i := 3) sc_l_full.nd rfl (Or.inl rfl)) (pgs_cons (pg_name (i := 9) sc_l_full.nd rfl (Or.inl rfl)) pgs_nil))) (pss_cons (ps_set (i := 10) sc_l_full.nd rfl (Or.inl rfl) pe_int)
    (pss_cons (ps_for PassesOwn.never rfl (pi_tup (pv 3)) (pg_name (i := 11) sc_l_full.nd rfl (Or.inl rfl)) (pss_one (ps_set (i := 10) sc_l_full.nd rfl (Or.inl rfl) (pe_ix ix_list (pv 6) (pe_op op_add (pe_op op_mul pe_int (pv 10)) (pv 11)) (fun _ _ => rfl)))))
    (pss_one (ps_set (i := 8) sc_l_full.nd rfl (Or.inl rfl) (pe_and (pv 8) (pe_one (pe_cmpR op_eq (pe_dsetd (pv 7) (pv 10) (pv 9) ⟨by rfl, by rfl, by rfl, by rfl⟩) (pv 9) (nomark _)))))))))
    (pss_one (ps_if (pt_val (pv 8)) (pss_one (ps_ret (pe_callTy call_tuple_of (by rfl) T.z_tuple b_tuple (pa_cons (pe_lc (own := [("k", 12)]) (g := gName 12) (by rfl) sc_l_full.nd (pi_range1 (by rfl) T.z_range (pa_cons (pv 2) pa_nil)) (blkOk_by (own := [("k", 12)]) (N := ["right", "wrong", "many", "word", "samples", "code", "digits", "ends", "good", "label", "row", "cell", "k"]) (sc := defScope s_l_full) (by decide +kernel)) (fun _ _ _ _ _ => pg_name (i := 12) sc_l_full.nd rfl (Or.inl rfl)) (fun _ _ _ _ _ => pts_nil) (fun _ _ _ _ _ => (pe_tup (pa_cons (pe_dget2 (hu_b hr) (pv 7) (pv 12) pe_int ⟨by rfl, by rfl, by rfl, by rfl⟩) (pa_cons (pe_tup (pa_cons (pe_ix (ixK_list K rfl) (pv 6) (pe_op op_mul pe_int (pv 12)) (fun _ _ => rfl)) (pa_cons (pe_ix (ixK_list K rfl) (pv 6) (pe_op op_add (pe_op op_mul pe_int (pv 12)) pe_int) (fun _ _ => rfl)) pa_nil))) pa_nil))))) pa_nil)))) pss_nil)))))))
    (pss_one (ps_ret pe_non)))), ?_⟩
  simp only [tSeq, tAsg, tOp]
  refine smp_lc (K := K) (σ := [some (.ref cr), some (.ref cw), some (.int ((m : Nat) : Int)), none, none, none, none, none, none, none, none, none, none]) 1 3 0 rfl hcr hrs (by omega) (by simp) fun D1 H1 u1 hD1 s1 e1 d1 => ?_
  refine smp_lc (K := K) (σ := [some (.ref cr), some (.ref cw), some (.int ((m : Nat) : Int)), none, none, none, none, none, none, none, none, none, none]) 0 3 1 rfl (s1 _ _ hcw) (hws.mono (same_tp s1)) (by omega) (by simp) fun D2 H2 u2 hD2 s2 e2 d2 => ?_
  have l1 := d1.length
  have l2 := d2.length
  simp only [List.length_map] at l1 l2
  refine ⟨D1, D2, u1, u2, rfl, rfl, s2 _ _ e1, e2, Nat.le_of_lt (small1000 (by omega)), fun sp hsp => ?_⟩
  have s3 : Same H (upd H2 sp (.lst (u1 ++ u2))) := (s1.trans s2).trans (Same.upd hsp)
  have h3 : upd H2 sp (.lst (u1 ++ u2)) sp = some (.lst (u1 ++ u2)) := upd_same
  have d3 : DVs (upd H2 sp (.lst (u1 ++ u2))) (u1 ++ u2) ((smp R W).map smD) := by
    rw [← smD_smp]
    exact ((d1.mono (same_tp s2)).append d2).mono (tups_new hsp)
  have d3l : (u1 ++ u2).length = (smp R W).length := by have := d3.length; rwa [List.length_map] at this
  have few2 : (smp R W).length ≤ 900 := by rw [smp_len]; exact few
  generalize u1 ++ u2 = us3 at h3 d3 d3l s3 ⊢
  generalize upd H2 sp (.lst us3) = H3 at s3 h3 d3 ⊢
  clear d1 d2 e1 e2 s1 s2 l1 l2
  have e2m : (2 : Int) * ((m : Nat) : Int) = ((2 * m : Nat) : Int) := by omega
  have pw : m ^ (2 * m) ≤ 65536 := by
    have : m = 1 ∨ m = 2 ∨ m = 3 ∨ m = 4 := by omega
    rcases this with rfl | rfl | rfl | rfl <;> decide
  refine ⟨_, rfl, _, rfl, _, _, rfl, rfl, .inl ⟨by decide, by decide⟩, m, 2 * m, by show [V.int ((m : Nat) : Int), V.int (2 * ((m : Nat) : Int))] = _; rw [e2m], m4, by omega, _, rfl, by omega, by omega, ?_⟩
  refine for_range (lo := 0) (n := ((m ^ (2 * m) : Nat) : Int).toNat) (fun j σ H' => Same H3 H' ∧ ∃ g3 g5 g6 g7 g8 g9 g10 g11, σ = [some (.ref cr), some (.ref cw), some (.int ((m : Nat) : Int)), g3, some (.ref sp), g5, g6, g7, g8, g9, g10, g11, none]) ⟨Same.refl _, _, _, _, _, _, _, _, _, rfl⟩ (fun j σ H' hj h => ?_) (fun σ H' h => ?_)
  · obtain ⟨s4, g3, g5, g6, g7, g8, g9, g10, g11, rfl⟩ := h
    have ej : (0 : Int) + ((j : Nat) : Int) = ((j : Nat) : Int) := by omega
    rw [ej]
    refine ⟨_, rfl, _, rfl, _, _, rfl, rfl, .inl ⟨by decide, by decide⟩, _, rfl, j, 2 * m, m, by show [V.int ((j : Nat) : Int), V.int (2 * ((m : Nat) : Int)), V.int ((m : Nat) : Int)] = _; rw [e2m], by omega, m0, by omega, fun dp H5 s5 hdp => ?_⟩
    refine fun e he => ?_
    have hdp : H5 dp = some (.lst ((dgs m j).map fun c : Nat => V.int (c : Int))) := hdp
    have s35 : Same H3 H5 := s4.trans s5
    have he6 : upd H5 e (.dK []) e = some (.dK []) := upd_same
    have s56 : Same H5 (upd H5 e (.dK [])) := Same.upd he
    generalize upd H5 e (.dK []) = H6 at s56 he6 ⊢
    have glt : ∀ r c, gd (dgs m j) r c < m := fun r c => getD_lt (dgs_lt m0) m0
    refine ⟨_, rfl, sp, rfl, ⟨_, SqL.of (s56 _ _ (s35 _ _ h3))⟩, for_list (K := K) (a := sp) (xs := us3) (fun i σ H' => Same H5 H' ∧ (∃ g : Bool, ∃ g3 g9 g10 g11 me, σ = [some (.ref cr), some (.ref cw), some (.int ((m : Nat) : Int)), g3, some (.ref sp), some (.int ((j : Nat) : Int)), some (.ref dp), some (.ref e), some (.bl g), g9, g10, g11, none] ∧
        H' e = some (.dK me) ∧ me.length ≤ i ∧ (g = true → ∀ n (x : List Nat × Nat), n < i → (smp R W)[n]? = some x → valV me (Sum.inl ((runT (gd (dgs m j)) 0 x.1 : Nat) : Int)) = some (.int ((x.2 : Nat) : Int))) ∧
        ∀ (r : Nat) v, valV me (Sum.inl (r : Int)) = some v → ∃ q : Nat, q < 2 ∧ v = .int (q : Int))) ⟨s56, true, _, _, _, _, [], rfl, he6, Nat.le_refl _, fun _ n x h => absurd h (Nat.not_lt_zero _), fun r v h => nomatch h⟩ (fun i σ H' _ h => SqL.of (h.1 _ _ (s35 _ _ h3))) (fun i x σ H' hx h => ?_) (fun σ H' h => ?_)⟩
    · obtain ⟨s6, g, g3, g9, g10, g11, me, rfl, hme, mel, don, lab⟩ := h
      obtain ⟨q, hq, dv⟩ := d3.get hx
      rw [List.getElem?_map] at hq
      obtain ⟨⟨w0, l0⟩, hw0, rfl⟩ := Option.map_eq_some_iff.mp hq
      have s36 := s35.trans s6
      obtain ⟨t, xs, rfl, ht, hxs⟩ := (dv.mono (same_tp s36)).inv
      have hi : i < (smp R W).length := (List.getElem?_eq_some_iff.mp hw0).1
      cases hxs with
      | cons h1 h2 =>
        cases h2 with
        | cons h3' h4 =>
          cases h4
          cases h3'
          obtain ⟨wp, rfl, hwp⟩ := h1.word
          have wb : ∀ c ∈ w0, c < 2 := smp_bin bR bW _ (List.mem_of_getElem? hw0)
          refine ⟨t, _, rfl, SqT.of ht, rfl, _, _, rfl, _, _, rfl, rfl, ?_⟩
          refine ⟨_, rfl, wp, rfl, ⟨_, SqT.of hwp⟩, for_tup (K := K) (a := wp) (xs := w0.map fun c : Nat => V.int (c : Int)) (fun n σ H2 => H2 = H' ∧ ∃ g11, σ = [some (.ref cr), some (.ref cw), some (.int ((m : Nat) : Int)), some (.ref wp), some (.ref sp), some (.int ((j : Nat) : Int)), some (.ref dp), some (.ref e), some (.bl g), some (.int ((l0 : Nat) : Int)), some (.int ((runT (gd (dgs m j)) 0 (w0.take n) : Nat) : Int)), g11, none]) ⟨rfl, _, rfl⟩ (fun n σ H2 _ h => by rw [h.1]; exact SqT.of hwp) (fun n x σ H2 hx2 h => ?_) (fun σ H2 h => ?_)⟩
          · obtain ⟨rfl, g11, rfl⟩ := h
            rw [List.getElem?_map] at hx2
            obtain ⟨c, hc, rfl⟩ := Option.map_eq_some_iff.mp hx2
            have c2 : c < 2 := wb c (List.mem_of_getElem? hc)
            have rlt : runT (gd (dgs m j)) 0 (w0.take n) < m := runT_lt glt _ _ m0
            have ix : 2 * runT (gd (dgs m j)) 0 (w0.take n) + c < (dgs m j).length := by rw [dgs_len]; omega
            have ei : (2 : Int) * ((runT (gd (dgs m j)) 0 (w0.take n) : Nat) : Int) + ((c : Nat) : Int) = ((2 * runT (gd (dgs m j)) 0 (w0.take n) + c : Nat) : Int) := by omega
            refine ⟨_, rfl, _, rfl, _, _, rfl, rfl, .inl ⟨by decide, by decide⟩, _, rfl, _, _, rfl, rfl, dp, _, _, .int ((gd (dgs m j) (runT (gd (dgs m j)) 0 (w0.take n)) c : Nat) : Int), rfl, rfl, SqL.of (s6 _ _ hdp), ?_, rfl, some (.int ((c : Nat) : Int)), ?_⟩
            · rw [ei]
              exact atI_nat (gd_get ix)
            · have e1 : runT (gd (dgs m j)) 0 (w0.take (n + 1)) = gd (dgs m j) (runT (gd (dgs m j)) 0 (w0.take n)) c := by
                rw [List.take_succ, hc]
                show runT _ 0 (w0.take n ++ [c]) = _
                rw [runT_snoc]
              rw [e1]
              rfl
          · obtain ⟨rfl, g11, rfl⟩ := h
            rw [List.length_map, List.take_length]
            have l2 : l0 < 2 := smp_lab _ (List.mem_of_getElem? hw0)
            generalize er : runT (gd (dgs m j)) 0 w0 = r
            cases g with
            | false =>
              refine ⟨_, rfl, false, rfl, s6, false, _, _, _, _, me, rfl, hme, by omega, fun z => (nomatch z), lab⟩
            | true =>
              have don := don rfl
              have fin : ∀ {me' : List (Key × V)} {H7 : Hp} (gg : Bool), Same H5 H7 → H7 e = some (.dK me') → me'.length ≤ i + 1 → (∀ r' : Nat, valV me' (Sum.inl (r' : Int)) = if r' = r then some (.int ((l0 : Nat) : Int)) else valV me (Sum.inl (r' : Int))) →
                  (valV me (Sum.inl (r : Int)) = none ∨ valV me (Sum.inl (r : Int)) = some (.int ((l0 : Nat) : Int))) → gg = true →
                  Same H5 H7 ∧ (∃ g : Bool, ∃ g3' g9' g10' g11' me'', [some (.ref cr), some (.ref cw), some (.int ((m : Nat) : Int)), some (.ref wp), some (.ref sp), some (.int ((j : Nat) : Int)), some (.ref dp), some (.ref e), some (.bl gg), some (.int ((l0 : Nat) : Int)), some (.int ((r : Nat) : Int)), g11, none] = [some (.ref cr), some (.ref cw), some (.int ((m : Nat) : Int)), g3', some (.ref sp), some (.int ((j : Nat) : Int)), some (.ref dp), some (.ref e), some (.bl g), g9', g10', g11', none] ∧
                    H7 e = some (.dK me'') ∧ me''.length ≤ i + 1 ∧ (g = true → ∀ n (x : List Nat × Nat), n < i + 1 → (smp R W)[n]? = some x → valV me'' (Sum.inl ((runT (gd (dgs m j)) 0 x.1 : Nat) : Int)) = some (.int ((x.2 : Nat) : Int))) ∧
                    ∀ (r : Nat) v, valV me'' (Sum.inl (r : Int)) = some v → ∃ q : Nat, q < 2 ∧ v = .int (q : Int)) := by
                intro me' H7 gg s7 h7 l7 v7 old _
                refine ⟨s7, gg, _, _, _, _, me', rfl, h7, l7, fun _ n x hn hx3 => ?_, fun r' v hv => ?_⟩
                · by_cases c : n = i
                  · subst c
                    rw [hw0] at hx3
                    obtain rfl := Option.some.inj hx3
                    rw [er, v7, if_pos rfl]
                  · have := don n x (by omega) hx3
                    rw [v7]
                    by_cases c2 : runT (gd (dgs m j)) 0 x.1 = r
                    · rw [if_pos c2]
                      rw [c2] at this
                      rcases old with o | o
                      · rw [o] at this; cases this
                      · rw [o] at this; exact this
                    · rw [if_neg c2]; exact this
                · rw [v7] at hv
                  by_cases c2 : r' = r
                  · rw [if_pos c2] at hv
                    exact ⟨l0, l2, (Option.some.inj hv).symm⟩
                  · rw [if_neg c2] at hv
                    exact lab r' v hv
              refine ⟨_, rfl, true, rfl, _, rfl, e, rfl, .inl ⟨me, .inl hme⟩, _, rfl, _, rfl, me, Sum.inl ((r : Nat) : Int), hme, rfl, small1000 (by omega), fun v hv => ?_, fun hv => ?_⟩
              · obtain ⟨q, q2, rfl⟩ := lab r v hv
                refine ⟨_, rfl, rfl, ?_⟩
                by_cases eq : q = l0
                · subst eq
                  exact fin _ s6 hme (by omega) (fun r' => by
                    by_cases c2 : r' = r
                    · rw [if_pos c2, c2]; exact hv
                    · rw [if_neg c2]) (.inr hv) (by simp)
                · refine ⟨s6, _, _, _, _, _, me, rfl, hme, by omega, fun z => ?_, lab⟩
                  exact absurd z (by simp; omega)
              · refine ⟨_, rfl, rfl, fin _ (fun b o e3 => ?_) upd_same ?_ (fun r' => ?_) (.inl hv) (by simp)⟩
                · rw [upd_ne (ne_of_none e3 he)]; exact s6 _ _ e3
                · have := length_putK me (Sum.inl ((r : Nat) : Int)) (V.int ((l0 : Nat) : Int))
                  omega
                · rw [valV_put]
                  by_cases c2 : r' = r
                  · subst c2; rw [if_pos rfl, if_pos rfl]
                  · rw [if_neg c2, if_neg fun z => c2 (by injection z with z; omega)]
    · obtain ⟨s6, g, g3, g9, g10, g11, me, rfl, hme, mel, don, lab⟩ := h
      rw [d3l] at mel don
      cases g with
      | false => exact ⟨_, rfl, _, rfl, ifF (by simp) ⟨s35.trans s6, _, _, _, _, _, _, _, _, rfl⟩⟩
      | true =>
        have don := don rfl
        obtain ⟨fb, ff⟩ := rws_fits (me := me) m0 (dgs_lt (c := j) m0) bR bW lab (fun x hx => by
          obtain ⟨n, hn, rfl⟩ := List.getElem_of_mem hx
          exact don n _ hn (List.getElem?_eq_getElem hn))
        refine ⟨_, rfl, _, rfl, ifT rfl ?_⟩
        refine ⟨_, rfl, _, rfl, by omega, by omega, fun D hD => ?_⟩
        have hme2 : H' e = some (.dK me) := hme
        have hdp2 := s6 _ _ hdp
        refine lc_range (lo := 0) (n := ((m : Nat) : Int).toNat) (fun n H2 => Same H' H2 ∧ ∃ us, H2 D = some (.lst us) ∧ DVs H2 us (((rwsN m (dgs m j) me).take n).map rwD)) ⟨Same.upd hD, [], upd_same, by rw [List.take_zero]; exact .nil⟩ (fun n H2 hn h => ?_) (fun H2 h => ?_)
        · obtain ⟨s7, us, e7, d7⟩ := h
          rw [Int.toNat_natCast] at hn
          have l7 := d7.length
          rw [List.length_map, List.length_take, rwsN_len] at l7
          have en : (0 : Int) + ((n : Nat) : Int) = ((n : Nat) : Int) := by omega
          rw [en]
          refine ⟨rfl, ?_⟩
          simp only [tYes, if_true]
          have ex0 : 2 * n + 0 < (dgs m j).length := by rw [dgs_len]; omega
          have ex1 : 2 * n + 1 < (dgs m j).length := by rw [dgs_len]; omega
          refine ⟨_, rfl, e, rfl, .inl ⟨me, .inl (s7 _ _ hme2)⟩, _, rfl, _, DGet.k (k := Sum.inl ((n : Nat) : Int)) (s7 _ _ hme2), ?_⟩
          refine ⟨_, rfl, _, rfl, _, _, rfl, rfl, .inl ⟨by decide, by decide⟩, dp, _, _, .int ((gd (dgs m j) n 0 : Nat) : Int), rfl, rfl, SqL.of (s7 _ _ hdp2), ?_, ?_⟩
          · have := atI_nat (gd_get ex0)
            rw [show ((2 * n + 0 : Nat) : Int) = 2 * ((n : Nat) : Int) by omega] at this
            exact this
          refine ⟨_, rfl, _, rfl, _, _, rfl, rfl, .inl ⟨by decide, by decide⟩, _, _, rfl, rfl, dp, _, _, .int ((gd (dgs m j) n 1 : Nat) : Int), rfl, rfl, SqL.of (s7 _ _ hdp2), ?_, ?_⟩
          · have := atI_nat (gd_get ex1)
            rw [show ((2 * n + 1 : Nat) : Int) = 2 * ((n : Nat) : Int) + 1 by omega] at this
            exact this
          refine ⟨by show 2 ≤ sizeLine; decide, fun t1 ht1 => ⟨by show 2 ≤ sizeLine; decide, fun t2 ht2 => ?_⟩⟩
          rw [enN_is lab]
          have n12 : t1 ≠ t2 := fun z => by rw [← z, upd_same] at ht2; cases ht2
          have s8 : Same H2 (upd (upd H2 t1 (.tup [.int ((gd (dgs m j) n 0 : Nat) : Int), .int ((gd (dgs m j) n 1 : Nat) : Int)])) t2 (.tup [.int ((enN me n : Nat) : Int), .ref t1])) := (Same.upd ht1).trans (Same.upd ht2)
          have v8 : DV (upd (upd H2 t1 (.tup [.int ((gd (dgs m j) n 0 : Nat) : Int), .int ((gd (dgs m j) n 1 : Nat) : Int)])) t2 (.tup [.int ((enN me n : Nat) : Int), .ref t1])) (.ref t2) (rwD (enN me n, (dgs m j).getD (2 * n) 0, (dgs m j).getD (2 * n + 1) 0)) := .tup upd_same (.cons (.int _) (.cons (.tup (by rw [upd_ne n12, upd_same]; rfl) (.cons (.int _) (.cons (.int _) .nil))) .nil))
          generalize upd (upd H2 t1 (.tup [.int ((gd (dgs m j) n 0 : Nat) : Int), .int ((gd (dgs m j) n 1 : Nat) : Int)])) t2 (.tup [.int ((enN me n : Nat) : Int), .ref t1]) = H8 at s8 v8 ⊢
          have e8 := s8 _ _ e7
          have tp : Tups H8 (upd H8 D (.lst (us ++ [.ref t2]))) := tups_upd fun xs e => by rw [e8] at e; cases e
          refine ⟨us, e8, small1000 (by omega), fun b o e3 => ?_, us ++ [.ref t2], upd_same, ?_⟩
          · rw [upd_ne (ne_of_none e3 hD)]; exact s8 _ _ (s7 _ _ e3)
          · have rg : (rwsN m (dgs m j) me)[n]? = some (enN me n, (dgs m j).getD (2 * n) 0, (dgs m j).getD (2 * n + 1) 0) := by
              unfold rwsN
              rw [List.getElem?_map, List.getElem?_range hn]
              rfl
            rw [List.take_succ, rg, List.map_append]
            exact ((d7.mono (same_tp s8)).mono tp).snoc (v8.mono tp)
        · obtain ⟨s7, us, e7, d7⟩ := h
          rw [Int.toNat_natCast, List.take_of_length_le (by rw [rwsN_len]; exact Nat.le_refl _)] at d7
          refine ⟨D, _, rfl, .inl ⟨SqL.of e7, fun tq htq => ?_⟩⟩
          exact kk _ _ (rwsN m (dgs m j) me) ((((s3.trans s35).trans s6).trans s7).trans (Same.upd htq)) (.tup upd_same (d7.mono (tups_new htq))) (rwsN_len _ _ _) fb ff
  · obtain ⟨s4, g3, g5, g6, g7, g8, g9, g10, g11, rfl⟩ := h
    exact kn H' (s3.trans s4)
end
end Toy

set_option Elab.async false
set_option linter.all false
set_option maxRecDepth 100000
set_option maxHeartbeats 4000000
namespace Toy
open PySem L2
def spLaw (K : PySem.W.Frag) : Sp := fun vs H Q _ => ∃ (a : Addr) (ns : List Int), vs = [.ref a] ∧ SqL K H a (ns.map V.int) ∧ ns.length ≤ 63 ∧ ∀ H', Q (.bl true) H'
structure Sf (R W full : List (List Nat)) : Prop where
  so : SortedW full
  me : ∀ w, w ∈ full ↔ Beg (R ++ W) w
  few : full.length ≤ 30
  bR : Bin R
  bW : Bin W
  sum : ((R ++ W).map List.length).sum ≤ 900
  cnt : R.length + W.length ≤ 25
theorem Sf.c9 {R W full : List (List Nat)} (S : Sf R W full) : R.length + W.length ≤ 900 := by have := S.cnt; omega
theorem beg_bin {S full : List (List Nat)} (me : ∀ w, w ∈ full ↔ Beg S w) (b : Bin S) : Bin full := fun w hw c hc => by
  rcases (me w).mp hw with rfl | ⟨x, hx, p⟩
  · cases hc
  · exact b x hx c (p.subset hc)
theorem beg_len {S full : List (List Nat)} {n : Nat} (me : ∀ w, w ∈ full ↔ Beg S w) (b : ∀ w ∈ S, w.length ≤ n) : ∀ w ∈ full, w.length ≤ n := fun w hw => by
  rcases (me w).mp hw with rfl | ⟨x, hx, p⟩
  · exact Nat.zero_le _
  · exact Nat.le_trans p.length_le (b x hx)
theorem sum_le {n : Nat} : ∀ {l : List (List Nat)}, (∀ w ∈ l, w.length ≤ n) → (l.map List.length).sum ≤ n * l.length
  | [], _ => by simp
  | w :: l, h => by
    have := sum_le (l := l) fun x m => h x (List.mem_cons_of_mem _ m)
    have := h w List.mem_cons_self
    rw [List.map_cons, List.sum_cons, List.length_cons, Nat.mul_succ]
    omega
theorem da_more (t : Tr) : (An.more t).da = .tup [.str "more", t.da] := rfl
theorem da_few (l : List Rw) (t : Tr) : (An.few l t).da = .tup [.str "fewest", rwsD l, t.da] := rfl
section
variable {P : Program} {w : World} {K : PySem.W.Frag} {mg : Str → Option Value} {base : Heap} {CR : Addr}
abbrev s_law : Stmt := top 32
theorem sc_law : FnScope ["script", "d", "right", "wrong", "many", "words", "tree", "samples", "fits", "other", "rows", "bent", "word"] ["script"] (defScope s_law) := ⟨rfl, rfl, rfl, by decide +kernel, rfl, by decide +kernel, by decide +kernel⟩

theorem ok_law {f : Addr} {fd : FuncData} (F : Fun K "law" "law" s_law f fd) (T : Txt K mg CR) (C__law_begin : CalX P w K mg base CX0 1 "_law_begin" (spBegin K)) (C__law_samples : CalX P w K mg base CX0 3 "_law_samples" (spSamples 100)) (C__law_draw : CalX P w K mg base CX0 1 "_law_draw" spDraw)
    (C__law_beginnings : CalX P w K mg base CX0 2 "_law_beginnings" spLBeg) (C__law_tree_from : CalX P w K mg base CX0 35 "_law_tree_from" (spTree 31)) (C__law_fit : CalX P w K mg base CX0 35 "_law_fit" (spFit 7)) (C__law_has_fit : CalX P w K mg base CX0 35 "_law_has_fit" (spHas 31))
    (C_judge_fewest : CalX P w K mg base CX0 35 "judge_fewest" (spJudge 30)) (C__law_wrong : CalX P w K mg base CX0 35 "_law_wrong" (spWrong 31)) (C__law_full : CalX P w K mg base CX0 2 "_law_full" spLFull) : FnOk P w K mg base CX0 36 f fd ["script"] (spLaw K) := by
  refine F.ok sc_law (fun vs H Q E h => ?_) (fun cdv A outer s H vs Q E hr h => ?_)
  · obtain ⟨a, ns, rfl, _⟩ := h
    rfl
  obtain ⟨a, ns, rfl, hS, hl, kk⟩ := h
  refine ⟨_, (pss_cons (ps_set (i := 1) sc_law.nd rfl (Or.inl rfl) (pe_u C__law_begin hr (by omega) pass0 (pa_cons (pv 0) pa_nil)))
    (pss_cons (ps_asg (pe_u C__law_samples hr (by omega) pass0 (pa_cons (pv 1) (pa_cons pe_int pa_nil))) (pg_tup (by rfl) (pgs_cons (pg_name (i := 2) sc_law.nd rfl (Or.inl rfl)) (pgs_cons (pg_name (i := 3) sc_law.nd rfl (Or.inl rfl)) pgs_nil))))
    (pss_cons (ps_set (i := 4) sc_law.nd rfl (Or.inl rfl) (pe_op op_add pe_int (pe_u C__law_draw hr (by omega) pass0 (pa_cons (pv 1) (pa_cons pe_int pa_nil)))))
    (pss_cons (ps_set (i := 5) sc_law.nd rfl (Or.inl rfl) (pe_u C__law_beginnings hr (by omega) pass0 (pa_cons (pe_op op_catB (pv 2) (pv 3)) pa_nil)))
    (pss_cons (ps_set (i := 6) sc_law.nd rfl (Or.inl rfl) (pe_u C__law_tree_from hr (by omega) pass0 (pa_cons (pv 1) (pa_cons (pv 5) (pa_cons (pe_dispT (hu_b hr) (pe_tup pa_nil) pe_int) (pa_cons pe_dnewT (pa_cons (pv 2) (pa_cons (pv 3) (pa_cons (pv 4) pa_nil)))))))))
    (pss_cons (ps_set (i := 7) sc_law.nd rfl (Or.inl rfl) (pe_op op_cat (pe_lc (own := [("word", 12)]) (g := gName 12) (by rfl) sc_law.nd (pi_tup (pv 2)) (blkOk_by (own := [("word", 12)]) (N := ["script", "d", "right", "wrong", "many", "words", "tree", "samples", "fits", "other", "rows", "bent", "word"]) (sc := defScope s_law) (by decide +kernel)) (fun _ _ _ _ _ => pg_name (i := 12) sc_law.nd rfl (Or.inl rfl)) (fun _ _ _ _ _ => pts_nil) (fun _ _ _ _ _ => (pe_tup (pa_cons (pv 12) (pa_cons pe_int pa_nil))))) (pe_lc (own := [("word", 12)]) (g := gName 12) (by rfl) sc_law.nd (pi_tup (pv 3)) (blkOk_by (own := [("word", 12)]) (N := ["script", "d", "right", "wrong", "many", "words", "tree", "samples", "fits", "other", "rows", "bent", "word"]) (sc := defScope s_law) (by decide +kernel)) (fun _ _ _ _ _ => pg_name (i := 12) sc_law.nd rfl (Or.inl rfl)) (fun _ _ _ _ _ => pts_nil) (fun _ _ _ _ _ => (pe_tup (pa_cons (pv 12) (pa_cons pe_int pa_nil)))))))
    (pss_cons (ps_set (i := 8) sc_law.nd rfl (Or.inl rfl) (pe_u C__law_fit hr (by omega) pass0 (pa_cons (pv 7) (pa_cons (pv 4) (pa_cons pe_dnewT pa_nil)))))
    (pss_cons (ps_if (pt_cmpR op_ne (pv 8) (pe_u C__law_has_fit hr (by omega) pass0 (pa_cons (pv 6) pa_nil)) (nomark _)) (pss_one (ps_ret pe_bl)) pss_nil)
    (pss_cons (ps_if (pt_val (pv 8)) (pss_cons (ps_for PassesOwn.never rfl (pi_list (pe_lst (pa_cons (pv 6) (pa_cons (pe_tup (pa_cons pe_str (pa_cons (pe_tup pa_nil) pa_nil))) (pa_cons (pe_tup (pa_cons pe_str (pa_cons (pe_tup pa_nil) (pa_cons (pe_tup pa_nil) pa_nil)))) (pa_cons pe_non (pa_cons (pe_tup (pa_cons pe_str (pa_cons (pe_tup (pa_cons (pv 6) (pa_cons (pv 6) pa_nil))) pa_nil))) pa_nil))))))) (pg_name (i := 9) sc_law.nd rfl (Or.inl rfl)) (pss_one (ps_if (pt_val (pe_u C_judge_fewest hr (by omega) pass0 (pa_cons pe_int (pa_cons (pv 2) (pa_cons (pv 3) (pa_cons (pv 4) (pa_cons (pe_tup (pa_cons pe_str (pa_cons (pv 9) pa_nil))) pa_nil))))))) (pss_one (ps_ret pe_bl)) pss_nil)))
    (pss_one (ps_ret pe_bl))) pss_nil)
    (pss_cons (ps_if (pt_not (pt_val (pe_u C_judge_fewest hr (by omega) pass0 (pa_cons pe_int (pa_cons (pv 2) (pa_cons (pv 3) (pa_cons (pv 4) (pa_cons (pe_tup (pa_cons pe_str (pa_cons (pv 6) pa_nil))) pa_nil)))))))) (pss_one (ps_ret pe_bl)) pss_nil)
    (pss_cons (ps_for PassesOwn.never rfl (pi_list (pe_u C__law_wrong hr (by omega) pass0 (pa_cons (pv 1) (pa_cons (pv 6) pa_nil)))) (pg_name (i := 9) sc_law.nd rfl (Or.inl rfl)) (pss_one (ps_if (pt_val (pe_u C_judge_fewest hr (by omega) pass0 (pa_cons pe_int (pa_cons (pv 2) (pa_cons (pv 3) (pa_cons (pv 4) (pa_cons (pe_tup (pa_cons pe_str (pa_cons (pv 9) pa_nil))) pa_nil))))))) (pss_one (ps_ret pe_bl)) pss_nil)))
    (pss_cons (ps_set (i := 10) sc_law.nd rfl (Or.inl rfl) (pe_u C__law_full hr (by omega) pass0 (pa_cons (pv 2) (pa_cons (pv 3) (pa_cons (pe_op op_add (pv 4) pe_int) pa_nil)))))
    (pss_cons (ps_if (pt_cmpR op_isN (pv 10) pe_non (nomark _)) (pss_one (ps_ret pe_bl)) pss_nil)
    (pss_cons (ps_if (pt_not (pt_val (pe_u C_judge_fewest hr (by omega) pass0 (pa_cons pe_int (pa_cons (pv 2) (pa_cons (pv 3) (pa_cons (pe_op op_add (pv 4) pe_int) (pa_cons (pe_tup (pa_cons pe_str (pa_cons (pv 10) (pa_cons (pv 6) pa_nil)))) pa_nil)))))))) (pss_one (ps_ret pe_bl)) pss_nil)
    (pss_cons (ps_if (PW.pt (pw_or (pt_val (pe_u C_judge_fewest hr (by omega) pass0 (pa_cons pe_int (pa_cons (pv 2) (pa_cons (pv 3) (pa_cons (pv 4) (pa_cons (pe_tup (pa_cons pe_str (pa_cons (pv 10) (pa_cons (pv 6) pa_nil)))) pa_nil))))))) (pw_or1 (pt_val (pe_u C_judge_fewest hr (by omega) pass0 (pa_cons pe_int (pa_cons (pv 2) (pa_cons (pv 3) (pa_cons pe_int (pa_cons (pe_tup (pa_cons pe_str (pa_cons (pv 10) (pa_cons pe_non pa_nil)))) pa_nil)))))))))) (pss_one (ps_ret pe_bl)) pss_nil)
    (pss_cons (ps_set (i := 11) sc_law.nd rfl (Or.inl rfl) (pe_op op_catB (pe_tup (pa_cons (pe_tup (pa_cons pe_int (pa_cons (pe_ix ix_tup (pe_ix ix_tup (pv 10) pe_int (fun _ _ => rfl)) pe_int (fun _ _ => rfl)) pa_nil))) pa_nil)) (pe_slice sl_tupB (pv 10) (po_some pe_int) po_none)))
    (pss_one (ps_ret (pe_not (pe_u C_judge_fewest hr (by omega) pass0 (pa_cons pe_int (pa_cons (pv 2) (pa_cons (pv 3) (pa_cons pe_int (pa_cons (pe_tup (pa_cons pe_str (pa_cons (pv 11) (pa_cons (pv 6) pa_nil)))) pa_nil))))))))))))))))))))))))), ?_⟩
  refine ⟨_, rfl, a, ns, rfl, hS, hl, fun d l ms H1 s1 D1 => ?_⟩
  refine ⟨_, rfl, d, l, ms, 8, rfl, D1, by decide, by decide, fun v H2 R W k2 D2 dv bR bW dj l3 cnt => ?_⟩
  obtain ⟨c, cr, cw, rs, us, rfl, hc, hcr, hcw, hrs, hus⟩ := samp_inv dv
  refine ⟨c, _, rfl, SqT.of hc, rfl, _, _, rfl, _, _, rfl, rfl, ?_⟩
  refine ⟨_, rfl, d, l, ms, _, rfl, D2, by decide, by decide, fun r H3 r0 r1 k3 D3 => ⟨_, _, rfl, rfl, ?_⟩⟩
  obtain ⟨m, hm, m0, m2⟩ : ∃ m : Nat, (1 : Int) + r = ((m : Nat) : Int) ∧ 0 < m ∧ m ≤ 2 := ⟨(1 + r).toNat, by omega, by omega, by omega⟩
  show gName 4 (V.int (1 + r)) _ _ _
  rw [hm]
  have t3 := D2.tups k3
  have hcr3 := t3 _ _ hcr
  have hcw3 := t3 _ _ hcw
  have hrs3 := hrs.mono t3
  have hus3 := hus.mono t3
  have hrl := hrs.length
  have hul := hus.length
  rw [List.length_map] at hrl hul
  refine ⟨_, rfl, _, rfl, cr, cw, rs, us, rfl, rfl, hcr3, hcw3, Nat.le_of_lt (small1000 (by omega)), fun p H4 s4 hp => ?_⟩
  have sum := sum_le l3
  rw [List.length_append] at sum
  refine ⟨p, _, R ++ W, rfl, hp, by rw [List.map_append]; exact (hrs3.mono (same_tp s4)).append (hus3.mono (same_tp s4)), by omega, fun q H5 us' full s5 hq dvs so me len => ?_⟩
  have S : Sf R W full := ⟨so, me, by omega, bR, bW, by omega, by omega⟩
  have pf : Pre full := beg_pre so me (by omega)
  have bi : Bin full := beg_bin me (fun w h => (List.mem_append.mp h).elim (bR w) (bW w))
  have lf : ∀ w ∈ full, w.length ≤ 3 := beg_len me l3
  obtain ⟨rest, ef, iv0⟩ := root_iv (R := R) (W := W) pf bi me m0
  have s35 := s4.trans s5
  have D5 := D3.same s35
  refine ⟨_, rfl, _, rfl, fun gp hgp => ⟨by show 0 ≤ sizeLine; decide, fun e he => ⟨[], e, rfl, upd_same, ?_, fun lk hlk => ?_⟩⟩⟩
  · rw [upd_ne (fun z => by rw [z, upd_same] at he; cases he)]; exact upd_same
  have ge : gp ≠ e := fun z => by rw [z, upd_same] at he; cases he
  have lg : lk ≠ gp := fun z => by rw [z, upd_same] at hlk; cases hlk
  have he5 : H5 e = none := by rw [upd_ne (Ne.symm ge)] at he; exact he
  have hlk5 : H5 lk = none := by
    rw [upd_ne lg] at hlk
    by_cases z : lk = e
    · rw [z, upd_same] at hlk; cases hlk
    · rw [upd_ne z, upd_ne lg] at hlk; exact hlk
  have s6 : Same H5 (upd (upd (upd (upd H5 gp (.dT [])) e (.tup [])) gp (.dT [([], V.int 0)])) lk (.dT [])) := fun b o x => by
    rw [upd_ne (ne_of_none x hlk5), upd_ne (ne_of_none x hgp), upd_ne (ne_of_none x he5), upd_ne (ne_of_none x hgp)]; exact x
  have g6 : GvD (upd (upd (upd (upd H5 gp (.dT [])) e (.tup [])) gp (.dT [([], V.int 0)])) lk (.dT [])) gp k0 [[]] := by
    show upd (upd (upd (upd H5 gp (.dT [])) e (.tup [])) gp (.dT [([], V.int 0)])) lk (.dT []) gp = _
    rw [upd_ne (Ne.symm lg), upd_same]; rfl
  have l6 : LkD (upd (upd (upd (upd H5 gp (.dT [])) e (.tup [])) gp (.dT [([], V.int 0)])) lk (.dT [])) lk m k0 [] [] :=
    ⟨upd_same, rfl, List.nodup_nil, by simp, fun _ _ => rfl, fun r c s e => nomatch e⟩
  generalize upd (upd (upd (upd H5 gp (.dT [])) e (.tup [])) gp (.dT [([], V.int 0)])) lk (.dT []) = H6 at s6 g6 l6 ⊢
  have s36 := s35.trans s6
  have D6 := D5.same s6
  have R6 : DV H6 (.ref cr) (.tup (R.map wd)) := (DV.tup hcr3 hrs3).mono (same_tp s36)
  have W6 : DV H6 (.ref cw) (.tup (W.map wd)) := (DV.tup hcw3 hus3).mono (same_tp s36)
  have q6 := s6 _ _ hq
  have qd : q ≠ d := fun z => by
    obtain ⟨i, f, g, _, e1, _⟩ := D5
    rw [z, e1] at hq
    obtain rfl := HO.lst.inj (Option.some.inj hq)
    obtain ⟨p2, hp2, d2⟩ := dvs.get (i := 1) rfl
    rw [List.getElem?_map] at hp2
    obtain ⟨w2, _, rfl⟩ := Option.map_eq_some_iff.mp hp2
    obtain ⟨_, e2, _⟩ := d2.word
    cases e2
  refine ⟨_, rfl, _, rfl, _, rfl, d, l, q, gp, lk, ms, us', .ref cr, .ref cw, m, k0, [], [], [[]], rest, full, R, W, rfl, D6, qd, q6, dvs.mono (same_tp s6), g6, l6, R6, W6, by omega, by omega, ef, ?_, pf, by simp, iv0.all, lf, bi, m0, by omega, fun tv H7 t k7 D7 dt it => ?_⟩
  · have := S.few
    rw [ef, List.length_cons] at this
    show rest.length ≤ 30
    omega
  have t7 := D6.tups k7
  have R7 := R6.mono t7
  have W7 := W6.mono t7
  have dt7 := dt
  have dj' : ∀ w, w ∈ R → w ∉ W := dj
  -- the samples with their labels
  simp only [gName, tSeq, tAsg, tOp]
  obtain ⟨_, rs7, e7, hcr7, hrs7⟩ := R7.inv
  cases e7
  obtain ⟨_, us7, e7, hcw7, hus7⟩ := W7.inv
  cases e7
  refine smp_lc (K := K) (σ := [some (.ref a), some (.ref d), some (.ref cr), some (.ref cw), some (.int ((m : Nat) : Int)), some (.ref q), some tv, none, none, none, none, none, none]) 1 12 2 rfl hcr7 hrs7 (by omega) (by simp) fun P1 H8 u1 hP1 s8 e8 d8 => ?_
  refine smp_lc (K := K) (σ := [some (.ref a), some (.ref d), some (.ref cr), some (.ref cw), some (.int ((m : Nat) : Int)), some (.ref q), some tv, none, none, none, none, none, none]) 0 12 3 rfl (s8 _ _ hcw7) (hus7.mono (same_tp s8)) (by omega) (by simp) fun P2 H9 u2 hP2 s9 e9 d9 => ?_
  have l1 := d8.length
  have l2 := d9.length
  simp only [List.length_map] at l1 l2
  refine ⟨P1, P2, u1, u2, rfl, rfl, s9 _ _ e8, e9, Nat.le_of_lt (small1000 (by omega)), fun sp hsp => ?_⟩
  have s10 : Same H7 (upd H9 sp (.lst (u1 ++ u2))) := (s8.trans s9).trans (Same.upd hsp)
  have h10 : upd H9 sp (.lst (u1 ++ u2)) sp = some (.lst (u1 ++ u2)) := upd_same
  have d10 : DVs (upd H9 sp (.lst (u1 ++ u2))) (u1 ++ u2) ((smp R W).map smD) := by
    rw [← smD_smp]
    exact ((d8.mono (same_tp s9)).append d9).mono (tups_new hsp)
  generalize u1 ++ u2 = us10 at h10 d10 s10 ⊢
  generalize upd H9 sp (.lst us10) = H10 at s10 h10 d10 ⊢
  clear d8 d9 e8 e9 s8 s9 l1 l2 hP1 hP2 hsp
  refine ⟨_, rfl, _, rfl, fun d2 hd2 => ?_⟩
  have s11 : Same H10 (upd H10 d2 (.dT [])) := Same.upd hd2
  refine ⟨sp, d2, us10, smp R W, m, k0, [], [], rfl, s11 _ _ h10, d10.mono (same_tp s11), smp_bin bR bW, by rw [smp_len]; omega, ⟨upd_same, rfl, List.nodup_nil, by simp, fun _ _ => rfl, fun r c s e => nomatch e⟩, m0, by omega, by show 2 * m ≤ 0 + 6; omega, fun b H12 hb s12 => ?_⟩
  have s712 : Same H7 H12 := (s10.trans s11).trans s12
  generalize upd H10 d2 (.dT []) = H11 at s11 s12 ⊢
  clear s11 s12 hd2 d10 h10 s10
  have tf := tree_fits it iv0
  have ht : Ht 31 t := (it.ht m0 (by omega)).mono (by
    have := S.few
    rw [ef, List.length_cons] at this
    omega)
  have ebt : b = hasFit t := by rw [Bool.eq_iff_iff, hb, tf]
  refine ⟨_, rfl, _, rfl, tv, t, rfl, dt7.mono (same_tp s712), ht, fun H13 s13 => ⟨rfl, _, rfl, ?_⟩⟩
  refine ifF (by rw [ebt]; simp) ?_
  have s713 := s712.trans s13
  have D13 := D7.same s713
  have R13 := R7.mono (same_tp s713)
  have W13 := W7.mono (same_tp s713)
  have T13 := dt7.mono (same_tp s713)
  have jm : ∀ {bb : Bool} {t' : Tr}, Nd R W m rest [[]] k0 t' bb → judgeB full R W m (.more t') = bb := fun {bb t'} h => by
    show acc R W m full [] k0 t' = bb
    rw [ef]
    exact root_acc h
  cases b with
  | true =>
    have fit := hb.mp rfl
    have jf : ∀ t', judgeB full R W m (.more t') = false := fun t' => jm (fits_none iv0 fit)
    refine ⟨_, rfl, true, rfl, ifT rfl ?_⟩
    refine ⟨_, rfl, by show 0 ≤ sizeLine; decide, fun t1 ht1 => ⟨by show 2 ≤ sizeLine; decide, fun t2 ht2 => ?_⟩⟩
    have n12 : t1 ≠ t2 := fun z => by rw [← z, upd_same] at ht2; cases ht2
    have x1 : Same H13 (upd (upd H13 t1 (.tup [])) t2 (.tup [.str "try", .ref t1])) := (Same.upd ht1).trans (Same.upd ht2)
    have v1 : DV (upd (upd H13 t1 (.tup [])) t2 (.tup [.str "try", .ref t1])) (.ref t2) (Tr.try_ []).da := by
      rw [da_try]
      exact .tup upd_same (.cons (.str _) (.cons (.tup (by rw [upd_ne n12, upd_same]) .nil) .nil))
    generalize upd (upd H13 t1 (.tup [])) t2 (.tup [.str "try", .ref t1]) = H14 at x1 v1 ⊢
    refine ⟨by show 0 ≤ sizeLine; decide, fun e1 he1 => ⟨by show 0 ≤ sizeLine; decide, fun e2 he2 => ⟨by show 3 ≤ sizeLine; decide, fun e3 he3 => ?_⟩⟩⟩
    have n12 : e1 ≠ e2 := fun z => by rw [← z, upd_same] at he2; cases he2
    have n13 : e1 ≠ e3 := fun z => by rw [← z, upd_ne n12, upd_same] at he3; cases he3
    have n23 : e2 ≠ e3 := fun z => by rw [← z, upd_same] at he3; cases he3
    have x2 : Same H14 (upd (upd (upd H14 e1 (.tup [])) e2 (.tup [])) e3 (.tup [.str "bad", .ref e1, .ref e2])) := ((Same.upd he1).trans (Same.upd he2)).trans (Same.upd he3)
    have v2 : DV (upd (upd (upd H14 e1 (.tup [])) e2 (.tup [])) e3 (.tup [.str "bad", .ref e1, .ref e2])) (.ref e3) (Tr.bad [] []).da := by
      rw [da_bad, wd_nil]
      exact .tup upd_same (.cons (.str _) (.cons (.tup (by rw [upd_ne n13, upd_ne n12, upd_same]) .nil) (.cons (.tup (by rw [upd_ne n23, upd_same]) .nil) .nil)))
    have v1 := v1.mono (same_tp x2)
    have x2 := x1.trans x2
    generalize upd (upd (upd H14 e1 (.tup [])) e2 (.tup [])) e3 (.tup [.str "bad", .ref e1, .ref e2]) = H15 at x2 v1 v2 ⊢
    have T15 := T13.mono (same_tp x2)
    refine ⟨_, rfl, _, rfl, by show 2 ≤ sizeLine; decide, fun t6 ht6 => ⟨by show 2 ≤ sizeLine; decide, fun t7' ht7 => ?_⟩⟩
    have n67 : t6 ≠ t7' := fun z => by rw [← z, upd_same] at ht7; cases ht7
    have x3 : Same H15 (upd (upd H15 t6 (.tup [tv, tv])) t7' (.tup [.str "try", .ref t6])) := (Same.upd ht6).trans (Same.upd ht7)
    have T16 := T15.mono (same_tp x3)
    have v3 : DV (upd (upd H15 t6 (.tup [tv, tv])) t7' (.tup [.str "try", .ref t6])) (.ref t7') (Tr.try_ [t, t]).da := by
      rw [da_try]
      exact .tup upd_same (.cons (.str _) (.cons (.tup (by rw [upd_ne n67, upd_same]) (.cons T16 (.cons T16 .nil))) .nil))
    have v1 := v1.mono (same_tp x3)
    have v2 := v2.mono (same_tp x3)
    have x3 := x2.trans x3
    generalize upd (upd H15 t6 (.tup [tv, tv])) t7' (.tup [.str "try", .ref t6]) = H16 at x3 v1 v2 v3 T16 ⊢
    refine ⟨by show 5 ≤ sizeLine; decide, fun p5 hp5 => ?_⟩
    have x4 : Same H16 (upd H16 p5 (.lst [tv, .ref t2, .ref e3, .non, .ref t7'])) := Same.upd hp5
    have h5 : upd H16 p5 (.lst [tv, .ref t2, .ref e3, .non, .ref t7']) p5 = some (.lst [tv, .ref t2, .ref e3, .non, .ref t7']) := upd_same
    have d5 : DVs (upd H16 p5 (.lst [tv, .ref t2, .ref e3, .non, .ref t7'])) [tv, .ref t2, .ref e3, .non, .ref t7'] ([t, .try_ [], .bad [] [], .non, .try_ [t, t]].map Tr.da) :=
      .cons (T16.mono (same_tp x4)) (.cons (v1.mono (same_tp x4)) (.cons (v2.mono (same_tp x4)) (.cons (by rw [Tr.da]; exact .non) (.cons (v3.mono (same_tp x4)) .nil))))
    have x4 := x3.trans x4
    generalize upd H16 p5 (.lst [tv, .ref t2, .ref e3, .non, .ref t7']) = H17 at x4 h5 d5 ⊢
    generalize [tv, V.ref t2, .ref e3, .non, .ref t7'] = uu at h5 d5
    generalize [t, Tr.try_ [], .bad [] [], .non, .try_ [t, t]] = tt at d5
    refine ⟨p5, rfl, ⟨_, SqL.of h5⟩, for_list (K := K) (a := p5) (xs := uu) (fun i σ H' => Same H17 H' ∧ ∃ g, σ = [some (.ref a), some (.ref d), some (.ref cr), some (.ref cw), some (.int ((m : Nat) : Int)), some (.ref q), some tv, some (.ref sp), some (.bl true), g, none, none, none]) ⟨Same.refl _, _, rfl⟩ (fun _ H' _ _ h => SqL.of (h.1 _ _ h5)) (fun i x σ H' hx h => ?_) (fun σ H' h => ?_)⟩
    · obtain ⟨x5, g, rfl⟩ := h
      obtain ⟨pd, hpd, dx⟩ := d5.get hx
      rw [List.getElem?_map] at hpd
      obtain ⟨tr, _, rfl⟩ := Option.map_eq_some_iff.mp hpd
      have x6 := x4.trans x5
      refine ⟨_, rfl, _, rfl, _, rfl, _, rfl, by show 2 ≤ sizeLine; decide, fun z hz => ?_⟩
      have x7 : Same H' (upd H' z (.tup [.str "more", x])) := Same.upd hz
      refine ⟨_, _, _, R, W, .more tr, full, m, rfl, R13.mono (same_tp (x6.trans x7)), W13.mono (same_tp (x6.trans x7)), .tup upd_same (.cons (.str _) (.cons (dx.mono (same_tp (x5.trans x7))) .nil)), S.so, S.me, S.few, by decide, S.bR, S.bW, S.sum, S.c9, fun H18 s18 => ⟨_, rfl, ?_⟩⟩
      rw [jf]
      exact ifF (by decide) ⟨(x5.trans x7).trans s18, _, rfl⟩
    · exact kk H'
  | false =>
    have nf : hasFit t = false := ebt.symm
    have jt : judgeB full R W m (.more t) = true := jm (tree_taken it iv0 nf)
    refine ⟨_, rfl, false, rfl, ifF (by decide) ?_⟩
    refine ⟨_, rfl, _, rfl, _, rfl, _, rfl, by show 2 ≤ sizeLine; decide, fun z1 hz1 => ?_⟩
    have x1 : Same H13 (upd H13 z1 (.tup [.str "more", tv])) := Same.upd hz1
    refine ⟨_, _, _, R, W, .more t, full, m, rfl, R13.mono (same_tp x1), W13.mono (same_tp x1), .tup upd_same (.cons (.str _) (.cons (T13.mono (same_tp x1)) .nil)), S.so, S.me, S.few, by decide, S.bR, S.bW, S.sum, S.c9, fun H14 x2 => ⟨_, rfl, ?_⟩⟩
    rw [jt]
    refine ifF (by decide) ?_
    have x2 := x1.trans x2
    have D14 := D13.same x2
    have R14 := R13.mono (same_tp x2)
    have W14 := W13.mono (same_tp x2)
    have T14 := T13.mono (same_tp x2)
    generalize upd H13 z1 (.tup [.str "more", tv]) = H13' at *
    refine ⟨_, rfl, _, rfl, d, l, ms, tv, t, rfl, D14, T14, ht, nf, fun pw H15 uu tt pd k15 D15 h15 d15 _ wr => ?_⟩
    have t15 := D14.tups k15
    have R15 := R14.mono t15
    have W15 := W14.mono t15
    have T15 := T14.mono t15
    refine ⟨pw, rfl, ⟨_, SqL.of h15⟩, for_list (K := K) (a := pw) (xs := uu) (fun i σ H' => Same H15 H' ∧ ∃ g, σ = [some (.ref a), some (.ref d), some (.ref cr), some (.ref cw), some (.int ((m : Nat) : Int)), some (.ref q), some tv, some (.ref sp), some (.bl false), g, none, none, none]) ⟨Same.refl _, _, rfl⟩ (fun _ H' _ _ h => SqL.of (h.1 _ _ h15)) (fun i x σ H' hx h => ?_) (fun σ H' h => ?_)⟩
    · obtain ⟨x5, g, rfl⟩ := h
      obtain ⟨pd, hpd, dx⟩ := d15.get hx
      rw [List.getElem?_map] at hpd
      obtain ⟨tr, htr, rfl⟩ := Option.map_eq_some_iff.mp hpd
      have jw : judgeB full R W m (.more tr) = false := jm (tree_wrong dj' m0 it iv0 tr (wr tr (List.mem_of_getElem? htr)))
      refine ⟨_, rfl, _, rfl, _, rfl, _, rfl, by show 2 ≤ sizeLine; decide, fun z hz => ?_⟩
      have x7 : Same H' (upd H' z (.tup [.str "more", x])) := Same.upd hz
      refine ⟨_, _, _, R, W, .more tr, full, m, rfl, R15.mono (same_tp (x5.trans x7)), W15.mono (same_tp (x5.trans x7)), .tup upd_same (.cons (.str _) (.cons (dx.mono (same_tp (x5.trans x7))) .nil)), S.so, S.me, S.few, by decide, S.bR, S.bW, S.sum, S.c9, fun H18 s18 => ⟨_, rfl, ?_⟩⟩
      rw [jw]
      exact ifF (by decide) ⟨(x5.trans x7).trans s18, _, rfl⟩
    · obtain ⟨x5, g, rfl⟩ := h
      have R16 := R15.mono (same_tp x5)
      have W16 := W15.mono (same_tp x5)
      have T16 := T15.mono (same_tp x5)
      have em : ((m : Nat) : Int) + 1 = ((m + 1 : Nat) : Int) := by omega
      refine ⟨_, rfl, _, rfl, _, rfl, _, _, rfl, rfl, _, _, R, W, m + 1, by show [_, _, V.int (((m : Nat) : Int) + 1)] = _; rw [em], R16, W16, bR, bW, S.c9, by omega, by omega, fun H17 x6 => ?_, fun v H17 lw x6 dv17 ll fb ff => ?_⟩
      · exact ⟨_, rfl, rfl, _, rfl, ifT rfl (kk _)⟩
      · obtain ⟨rp, vl, rfl, hrp, hvl⟩ := dv17.inv
        have R17 := R16.mono (same_tp x6)
        have W17 := W16.mono (same_tp x6)
        have T17 := T16.mono (same_tp x6)
        have jt' : acc R W m full [] k0 t = true := jt
        have j4 : judgeB full R W (m + 1) (.few lw t) = true := by
          rw [judgeB, fb, ff, ll, decide_eq_true (Nat.le_refl _), if_neg (by omega), Nat.add_sub_cancel, jt']
          rfl
        have j5 : judgeB full R W m (.few lw t) = false := by
          rw [judgeB, ll, decide_eq_false (by omega), Bool.false_and, Bool.and_false]
        have j6 : judgeB full R W 4 (.few lw .non) = false := by
          rw [judgeB, ll, if_neg (by omega), acc_non, Bool.and_false, Bool.and_false, Bool.and_false]
        have j7 : ∀ r, judgeB full R W 4 (.few ((2, r) :: lw.drop 1) t) = false := fun r => by
          rw [judgeB, show fullB ((2, r) :: lw.drop 1) = false from rfl, Bool.false_and]
        refine ⟨_, rfl, rfl, _, rfl, ifF (by simp) ?_⟩
        refine ⟨_, rfl, _, rfl, _, rfl, _, _, rfl, rfl, _, rfl, _, rfl, by show 3 ≤ sizeLine; decide, fun z1 hz1 => ?_⟩
        have y1 : Same H17 (upd H17 z1 (.tup [.str "fewest", .ref rp, tv])) := Same.upd hz1
        refine ⟨_, _, _, R, W, .few lw t, full, m + 1, by show [_, _, _, V.int (((m : Nat) : Int) + 1), _] = _; rw [em], R17.mono (same_tp y1), W17.mono (same_tp y1), .tup upd_same (.cons (.str _) (.cons (dv17.mono (same_tp y1)) (.cons (T17.mono (same_tp y1)) .nil))), S.so, S.me, S.few, by decide, S.bR, S.bW, S.sum, S.c9, fun H18 y2' => ⟨_, rfl, ?_⟩⟩
        rw [j4]
        refine ifF (by decide) ?_
        have y2 := y1.trans y2'
        refine ⟨_, rfl, _, rfl, _, rfl, _, rfl, _, rfl, by show 3 ≤ sizeLine; decide, fun z2 hz2 => ?_⟩
        have y3 : Same H17 (upd H18 z2 (.tup [.str "fewest", .ref rp, tv])) := y2.trans (Same.upd hz2)
        refine ⟨_, _, _, R, W, .few lw t, full, m, rfl, R17.mono (same_tp y3), W17.mono (same_tp y3), .tup upd_same (.cons (.str _) (.cons (dv17.mono (same_tp y3)) (.cons (T17.mono (same_tp y3)) .nil))), S.so, S.me, S.few, by decide, S.bR, S.bW, S.sum, S.c9, fun H19 y4' => ⟨_, rfl, ?_⟩⟩
        rw [j5]
        refine ifF (by decide) ?_
        have y4 := y3.trans y4'
        refine ⟨_, rfl, _, rfl, _, rfl, by show 3 ≤ sizeLine; decide, fun z3 hz3 => ?_⟩
        have y5 : Same H17 (upd H19 z3 (.tup [.str "fewest", .ref rp, .non])) := y4.trans (Same.upd hz3)
        refine ⟨_, _, _, R, W, .few lw .non, full, 4, rfl, R17.mono (same_tp y5), W17.mono (same_tp y5), .tup upd_same (.cons (.str _) (.cons (dv17.mono (same_tp y5)) (.cons .non .nil))), S.so, S.me, S.few, by decide, S.bR, S.bW, S.sum, S.c9, fun H20 y6' => ⟨_, rfl, ?_⟩⟩
        rw [j6]
        refine ifF (by decide) ?_
        have y6 := y5.trans y6'
        obtain ⟨q0, b0, e1, e2, e3⟩ := row_at (hvl.mono (same_tp y6)) (m := 0) (by omega)
        have hrp20 := y6 _ _ hrp
        refine ⟨_, rfl, rp, _, _, _, rfl, rfl, SqT.of hrp20, atI_nat (j := 0) e1, q0, _, _, _, rfl, rfl, SqT.of e2, rfl, by show 2 ≤ sizeLine; decide, fun z4 hz4 => ⟨by show 1 ≤ sizeLine; decide, fun z5 hz5 => ?_⟩⟩
        have n45 : z4 ≠ z5 := fun z => by rw [← z, upd_same] at hz5; cases hz5
        have y7 : Same H20 (upd (upd H20 z4 (.tup [.int 2, .ref b0])) z5 (.tup [.ref z4])) := (Same.upd hz4).trans (Same.upd hz5)
        have g4 : upd (upd H20 z4 (.tup [.int 2, .ref b0])) z5 (.tup [.ref z4]) z4 = some (.tup [.int 2, .ref b0]) := by rw [upd_ne n45, upd_same]
        have g5 : upd (upd H20 z4 (.tup [.int 2, .ref b0])) z5 (.tup [.ref z4]) z5 = some (.tup [.ref z4]) := upd_same
        generalize upd (upd H20 z4 (.tup [.int 2, .ref b0])) z5 (.tup [.ref z4]) = H21 at y7 g4 g5 ⊢
        refine ⟨_, rfl, _, rfl, rp, _, rfl, y7 _ _ hrp20, fun z6 H22 y8 hz6 => ?_⟩
        rw [show (1 : Int) = ((1 : Nat) : Int) by rfl, cutV_from] at hz6
        have hvl' := hvl.length
        rw [List.length_map, ll] at hvl'
        refine ⟨z5, z6, _, _, rfl, rfl, y8 _ _ g5, hz6, by rw [List.length_drop, List.length_singleton]; exact Nat.le_of_lt (small1000 (by omega)), fun z7 H23 y9 hz7 => ?_⟩
        have y20 : Same H20 H23 := (y7.trans y8).trans y9
        have yA := y6.trans y20
        have dl : DV H23 (.ref z7) (rwsD ((2, (lw.getD 0 (0, 0, 0)).2) :: lw.drop 1)) := by
          refine .tup hz7 (.cons (.tup (y9 _ _ (y8 _ _ g4)) (.cons (.int _) (.cons ?_ .nil))) ?_)
          · exact .of_word (by rw [y20 _ _ e3]; rfl)
          · rw [List.map_drop]
            exact (hvl.mono (same_tp yA)).drop 1
        refine ⟨_, rfl, _, rfl, _, rfl, _, rfl, by show 3 ≤ sizeLine; decide, fun z8 hz8 => ?_⟩
        have yB : Same H17 (upd H23 z8 (.tup [.str "fewest", .ref z7, tv])) := yA.trans (Same.upd hz8)
        refine ⟨_, _, _, R, W, .few ((2, (lw.getD 0 (0, 0, 0)).2) :: lw.drop 1) t, full, 4, rfl, R17.mono (same_tp yB), W17.mono (same_tp yB), .tup upd_same (.cons (.str _) (.cons (dl.mono (tups_new hz8)) (.cons (T17.mono (same_tp yB)) .nil))), S.so, S.me, S.few, by decide, S.bR, S.bW, S.sum, S.c9, fun H24 y10 => ⟨_, rfl, ?_⟩⟩
        rw [j7]
        exact kk _
end
end Toy

set_option Elab.async false
set_option linter.all false
set_option maxRecDepth 100000
set_option maxHeartbeats 4000000
namespace Toy
open PySem L2
section
variable {P : Program} {w : World} {K : PySem.W.Frag} {mg : Str → Option Value} {base : Heap} {CR : Addr} {f g : Addr} {fd gd : FuncData} {ps : List Str} {CX : CXT}
theorem fnok_no {k : Nat} {sp : Sp} (no : ∀ vs H Q E, ¬ sp vs H Q E) : FnOk P w K mg base CX k f fd ps sp :=
  ⟨fun vs H Q E h => absurd h (no vs H Q E), fun A outer s H args us vs Q E _ _ _ _ h => absurd h (no vs H Q E)⟩
theorem cal_mono {j k : Nat} {x : Str} {sp : Sp} (c : CalX P w K mg base CX j x sp) (h : j ≤ k) : CalX P w K mg base CX k x sp := by
  obtain ⟨f, fd, ps, F, r⟩ := c.ex
  exact ⟨f, fd, ps, F.mono h, r⟩
theorem all_bars (T : Txt K mg CR) (F : Fun K "bars" "bars" s_bars f fd) (m : mg "bars" = some (.ref f)) (k : PySem.W.keepIn K (.ref f) = true) (b : Binds K fd ["state", "words", "samples", "most", "tree", "base"] [])
    (M_forced : MetX P w K mg base CX0 1 CR "forced" (spForced CR)) (M_give : MetX P w K mg base CX0 1 CR "give" (spGive CR)) (M_copied : MetX P w K mg base CX0 3 CR "copied" (spCopied CR)) (C_is_bad : CalX P w K mg base CX0 3 "is_bad" (spIsBad CR)) : ∀ n : Nat, CalX P w K mg base CX0 (n + 3) "bars" (spBars CR n)
  | 0 => ⟨f, fd, _, fnok_no fun _ _ _ _ h => h, m, k, b⟩
  | n + 1 => ⟨f, fd, _, ok_bars F T M_forced M_give M_copied C_is_bad (all_bars T F m k b M_forced M_give M_copied C_is_bad n), m, k, b⟩
theorem all_fit (T : Txt K mg CR) (F : Fun K "_law_fit" "_law_fit" s_l_fit f fd) (m : mg "_law_fit" = some (.ref f)) (k : PySem.W.keepIn K (.ref f) = true) (b : Binds K fd ["samples", "many", "links"] []) : ∀ n : Nat, CalX P w K mg base CX0 (n + 1) "_law_fit" (spFit n)
  | 0 => ⟨f, fd, _, fnok_no fun _ _ _ _ h => h, m, k, b⟩
  | n + 1 => ⟨f, fd, _, ok_fit F T (all_fit T F m k b n), m, k, b⟩
theorem all_tree (T : Txt K mg CR) (F : Fun K "_law_tree_from" "_law_tree_from" s_l_tree_from f fd) (m : mg "_law_tree_from" = some (.ref f)) (k : PySem.W.keepIn K (.ref f) = true) (b : Binds K fd ["d", "words", "given", "links", "right", "wrong", "many"] [])
    (I : CalX P w K mg base CX0 1 "_law_clashes" spClashes) (J : CalX P w K mg base CX0 2 "_law_pick" spPick) : ∀ n : Nat, CalX P w K mg base CX0 (n + 2) "_law_tree_from" (spTree n)
  | 0 => ⟨f, fd, _, fnok_no fun _ _ _ _ h => h, m, k, b⟩
  | n + 1 => ⟨f, fd, _, ok_tree F T I J (all_tree T F m k b I J n), m, k, b⟩
theorem all_has (T : Txt K mg CR) (F : Fun K "_law_has_fit" "_law_has_fit" s_l_has_fit f fd) (m : mg "_law_has_fit" = some (.ref f)) (k : PySem.W.keepIn K (.ref f) = true) (b : Binds K fd ["tree"] []) : ∀ n : Nat, CalX P w K mg base CX0 (n + 1) "_law_has_fit" (spHas n)
  | 0 => ⟨f, fd, _, fnok_no fun _ _ _ _ h => h, m, k, b⟩
  | n + 1 => ⟨f, fd, _, ok_has F T (all_has T F m k b n), m, k, b⟩
theorem all_wrong (T : Txt K mg CR) (F : Fun K "_law_wrong" "_law_wrong" s_l_wrong f fd) (m : mg "_law_wrong" = some (.ref f)) (k : PySem.W.keepIn K (.ref f) = true) (b : Binds K fd ["d", "tree"] []) (I : CalX P w K mg base CX0 1 "_law_draw" spDraw) (J : CalX P w K mg base CX0 2 "_law_pick" spPick) : ∀ n : Nat, CalX P w K mg base CX0 (n + 2) "_law_wrong" (spWrong n)
  | 0 => ⟨f, fd, _, fnok_no fun _ _ _ _ h => h, m, k, b⟩
  | n + 1 => ⟨f, fd, _, ok_wrong F T I J (all_wrong T F m k b I J n), m, k, b⟩
end
theorem all_mk {P : Program} {w : World} {K : PySem.W.Frag} {h : Heap} {mg : Str → Option Value} {fa : Addr} (X : K.In h) (G : h.Ns mainGlobals mg) (hfa : mg "law" = some (.ref fa))
    {CR : Addr} {f00 : Addr} {oc00 kV00 dc00 pm00 cd00 ct00 : Value} {od00 an00 : Option Addr} {sl00 : Array (Option Value)} {f01 : Addr} {oc01 kV01 dc01 pm01 cd01 ct01 : Value} {od01 an01 : Option Addr} {sl01 : Array (Option Value)} {f02 : Addr} {oc02 kV02 dc02 pm02 cd02 ct02 : Value} {od02 an02 : Option Addr} {sl02 : Array (Option Value)} {f03 : Addr} {oc03 kV03 dc03 pm03 cd03 ct03 : Value} {od03 an03 : Option Addr} {sl03 : Array (Option Value)} {f04 : Addr} {oc04 kV04 dc04 pm04 cd04 ct04 : Value} {od04 an04 : Option Addr} {sl04 : Array (Option Value)} {f05 : Addr} {oc05 kV05 dc05 pm05 cd05 ct05 : Value} {od05 an05 : Option Addr} {sl05 : Array (Option Value)} {f06 : Addr} {oc06 kV06 dc06 pm06 cd06 ct06 : Value} {od06 an06 : Option Addr} {sl06 : Array (Option Value)} {f07 : Addr} {oc07 kV07 dc07 pm07 cd07 ct07 : Value} {od07 an07 : Option Addr} {sl07 : Array (Option Value)} {f08 : Addr} {oc08 kV08 dc08 pm08 cd08 ct08 : Value} {od08 an08 : Option Addr} {sl08 : Array (Option Value)} {f09 : Addr} {oc09 kV09 dc09 pm09 cd09 ct09 : Value} {od09 an09 : Option Addr} {sl09 : Array (Option Value)} {f10 : Addr} {oc10 kV10 dc10 pm10 cd10 ct10 : Value} {od10 an10 : Option Addr} {sl10 : Array (Option Value)} {f11 : Addr} {oc11 kV11 dc11 pm11 cd11 ct11 : Value} {od11 an11 : Option Addr} {sl11 : Array (Option Value)} {f12 : Addr} {oc12 kV12 dc12 pm12 cd12 ct12 : Value} {od12 an12 : Option Addr} {sl12 : Array (Option Value)} {f13 : Addr} {oc13 kV13 dc13 pm13 cd13 ct13 : Value} {od13 an13 : Option Addr} {sl13 : Array (Option Value)} {f14 : Addr} {oc14 kV14 dc14 pm14 cd14 ct14 : Value} {od14 an14 : Option Addr} {sl14 : Array (Option Value)} {f15 : Addr} {oc15 kV15 dc15 pm15 cd15 ct15 : Value} {od15 an15 : Option Addr} {sl15 : Array (Option Value)} {f16 : Addr} {oc16 kV16 dc16 pm16 cd16 ct16 : Value} {od16 an16 : Option Addr} {sl16 : Array (Option Value)} {f17 : Addr} {oc17 kV17 dc17 pm17 cd17 ct17 : Value} {od17 an17 : Option Addr} {sl17 : Array (Option Value)} {f18 : Addr} {oc18 kV18 dc18 pm18 cd18 ct18 : Value} {od18 an18 : Option Addr} {sl18 : Array (Option Value)} {f19 : Addr} {oc19 kV19 dc19 pm19 cd19 ct19 : Value} {od19 an19 : Option Addr} {sl19 : Array (Option Value)} {f20 : Addr} {oc20 kV20 dc20 pm20 cd20 ct20 : Value} {od20 an20 : Option Addr} {sl20 : Array (Option Value)} {f21 : Addr} {oc21 kV21 dc21 pm21 cd21 ct21 : Value} {od21 an21 : Option Addr} {sl21 : Array (Option Value)} {f22 : Addr} {oc22 kV22 dc22 pm22 cd22 ct22 : Value} {od22 an22 : Option Addr} {sl22 : Array (Option Value)} {f23 : Addr} {oc23 kV23 dc23 pm23 cd23 ct23 : Value} {od23 an23 : Option Addr} {sl23 : Array (Option Value)} {f24 : Addr} {oc24 kV24 dc24 pm24 cd24 ct24 : Value} {od24 an24 : Option Addr} {sl24 : Array (Option Value)} {f25 : Addr} {oc25 kV25 dc25 pm25 cd25 ct25 : Value} {od25 an25 : Option Addr} {sl25 : Array (Option Value)} {f26 : Addr} {oc26 kV26 dc26 pm26 cd26 ct26 : Value} {od26 an26 : Option Addr} {sl26 : Array (Option Value)} {f27 : Addr} {oc27 kV27 dc27 pm27 cd27 ct27 : Value} {od27 an27 : Option Addr} {sl27 : Array (Option Value)} {f28 : Addr} {oc28 kV28 dc28 pm28 cd28 ct28 : Value} {od28 an28 : Option Addr} {sl28 : Array (Option Value)} {f29 : Addr} {oc29 kV29 dc29 pm29 cd29 ct29 : Value} {od29 an29 : Option Addr} {sl29 : Array (Option Value)} {f30 : Addr} {oc30 kV30 dc30 pm30 cd30 ct30 : Value} {od30 an30 : Option Addr} {sl30 : Array (Option Value)}
    (aCR : PySem.W.nsIn K mainGlobals "RowState" = some (some (.ref CR)))
    (pgCR : PySem.W.plainGet K CR Str.empty = true)
    (hdCR : PySem.W.hasDictIn K CR = true)
    (poCR : PySem.W.plainOver K CR = true)
    (saCR : PySem.W.findIn K (.ref CR) "__setattr__" = some (some (.builtin "object.__setattr__")))
    (mkCR : PySem.W.makesIn K CR = true)
    (kcCR : PySem.W.keepIn K (.ref CR) = true)
    (nCR_given : PySem.W.findIn K (.ref CR) "given" = some none)
    (nCR_links : PySem.W.findIn K (.ref CR) "links" = some none)
    (nCR_used : PySem.W.findIn K (.ref CR) "used" = some none)
    (nCR_right_at : PySem.W.findIn K (.ref CR) "right_at" = some none)
    (nCR_wrong_at : PySem.W.findIn K (.ref CR) "wrong_at" = some none)
    (a00 : PySem.W.nsIn K mainGlobals "is_whole" = some (some (.ref f00)))
    (l00 : K.lookup f00 = some ⟨oc00, od00, .func (PySem.W.fnOf "is_whole" "is_whole" (defArgs s_is_whole) (defBody s_is_whole) (defScope s_is_whole) .none kV00 dc00 pm00 an00 cd00 ct00), sl00⟩)
    (c00 : PySem.W.codeIn K cd00 "is_whole" = true)
    (k00 : PySem.W.keepIn K (.ref f00) = true)
    (a01 : PySem.W.nsIn K mainGlobals "is_cells" = some (some (.ref f01)))
    (l01 : K.lookup f01 = some ⟨oc01, od01, .func (PySem.W.fnOf "is_cells" "is_cells" (defArgs s_is_cells) (defBody s_is_cells) (defScope s_is_cells) .none kV01 dc01 pm01 an01 cd01 ct01), sl01⟩)
    (c01 : PySem.W.codeIn K cd01 "is_cells" = true)
    (k01 : PySem.W.keepIn K (.ref f01) = true)
    (a02 : PySem.W.nsIn K mainGlobals "is_wholes" = some (some (.ref f02)))
    (l02 : K.lookup f02 = some ⟨oc02, od02, .func (PySem.W.fnOf "is_wholes" "is_wholes" (defArgs s_is_wholes) (defBody s_is_wholes) (defScope s_is_wholes) .none kV02 dc02 pm02 an02 cd02 ct02), sl02⟩)
    (c02 : PySem.W.codeIn K cd02 "is_wholes" = true)
    (k02 : PySem.W.keepIn K (.ref f02) = true)
    (a03 : PySem.W.nsIn K mainGlobals "is_rows" = some (some (.ref f03)))
    (l03 : K.lookup f03 = some ⟨oc03, od03, .func (PySem.W.fnOf "is_rows" "is_rows" (defArgs s_is_rows) (defBody s_is_rows) (defScope s_is_rows) .none kV03 dc03 pm03 an03 cd03 ct03), sl03⟩)
    (c03 : PySem.W.codeIn K cd03 "is_rows" = true)
    (k03 : PySem.W.keepIn K (.ref f03) = true)
    (a04 : PySem.W.nsIn K mainGlobals "walk" = some (some (.ref f04)))
    (l04 : K.lookup f04 = some ⟨oc04, od04, .func (PySem.W.fnOf "walk" "walk" (defArgs s_walk) (defBody s_walk) (defScope s_walk) .none kV04 dc04 pm04 an04 cd04 ct04), sl04⟩)
    (c04 : PySem.W.codeIn K cd04 "walk" = true)
    (k04 : PySem.W.keepIn K (.ref f04) = true)
    (a05 : PySem.W.nsIn K mainGlobals "in_order" = some (some (.ref f05)))
    (l05 : K.lookup f05 = some ⟨oc05, od05, .func (PySem.W.fnOf "in_order" "in_order" (defArgs s_in_order) (defBody s_in_order) (defScope s_in_order) .none kV05 dc05 pm05 an05 cd05 ct05), sl05⟩)
    (c05 : PySem.W.codeIn K cd05 "in_order" = true)
    (k05 : PySem.W.keepIn K (.ref f05) = true)
    (a06 : PySem.W.nsIn K mainGlobals "beginnings_of" = some (some (.ref f06)))
    (l06 : K.lookup f06 = some ⟨oc06, od06, .func (PySem.W.fnOf "beginnings_of" "beginnings_of" (defArgs s_beginnings_of) (defBody s_beginnings_of) (defScope s_beginnings_of) .none kV06 dc06 pm06 an06 cd06 ct06), sl06⟩)
    (c06 : PySem.W.codeIn K cd06 "beginnings_of" = true)
    (k06 : PySem.W.keepIn K (.ref f06) = true)
    (a07 : PySem.W.findIn K (.ref CR) "__init__" = some (some (.ref f07)))
    (i07 : PySem.W.isFn K (.ref f07) = true)
    (l07 : K.lookup f07 = some ⟨oc07, od07, .func (PySem.W.fnOf "__init__" "RowState.__init__" (defArgs s_r_init) (defBody s_r_init) (defScope s_r_init) .none kV07 dc07 pm07 an07 cd07 ct07), sl07⟩)
    (c07 : PySem.W.codeIn K cd07 "RowState.__init__" = true)
    (k07 : PySem.W.keepIn K (.ref f07) = true)
    (a08 : PySem.W.findIn K (.ref CR) "copied" = some (some (.ref f08)))
    (i08 : PySem.W.isFn K (.ref f08) = true)
    (l08 : K.lookup f08 = some ⟨oc08, od08, .func (PySem.W.fnOf "copied" "RowState.copied" (defArgs s_r_copied) (defBody s_r_copied) (defScope s_r_copied) .none kV08 dc08 pm08 an08 cd08 ct08), sl08⟩)
    (c08 : PySem.W.codeIn K cd08 "RowState.copied" = true)
    (k08 : PySem.W.keepIn K (.ref f08) = true)
    (a09 : PySem.W.findIn K (.ref CR) "forced" = some (some (.ref f09)))
    (i09 : PySem.W.isFn K (.ref f09) = true)
    (l09 : K.lookup f09 = some ⟨oc09, od09, .func (PySem.W.fnOf "forced" "RowState.forced" (defArgs s_r_forced) (defBody s_r_forced) (defScope s_r_forced) .none kV09 dc09 pm09 an09 cd09 ct09), sl09⟩)
    (c09 : PySem.W.codeIn K cd09 "RowState.forced" = true)
    (k09 : PySem.W.keepIn K (.ref f09) = true)
    (a10 : PySem.W.findIn K (.ref CR) "give" = some (some (.ref f10)))
    (i10 : PySem.W.isFn K (.ref f10) = true)
    (l10 : K.lookup f10 = some ⟨oc10, od10, .func (PySem.W.fnOf "give" "RowState.give" (defArgs s_r_give) (defBody s_r_give) (defScope s_r_give) .none kV10 dc10 pm10 an10 cd10 ct10), sl10⟩)
    (c10 : PySem.W.codeIn K cd10 "RowState.give" = true)
    (k10 : PySem.W.keepIn K (.ref f10) = true)
    (a11 : PySem.W.nsIn K mainGlobals "is_bad" = some (some (.ref f11)))
    (l11 : K.lookup f11 = some ⟨oc11, od11, .func (PySem.W.fnOf "is_bad" "is_bad" (defArgs s_is_bad) (defBody s_is_bad) (defScope s_is_bad) .none kV11 dc11 pm11 an11 cd11 ct11), sl11⟩)
    (c11 : PySem.W.codeIn K cd11 "is_bad" = true)
    (k11 : PySem.W.keepIn K (.ref f11) = true)
    (a12 : PySem.W.nsIn K mainGlobals "bars" = some (some (.ref f12)))
    (l12 : K.lookup f12 = some ⟨oc12, od12, .func (PySem.W.fnOf "bars" "bars" (defArgs s_bars) (defBody s_bars) (defScope s_bars) .none kV12 dc12 pm12 an12 cd12 ct12), sl12⟩)
    (c12 : PySem.W.codeIn K cd12 "bars" = true)
    (k12 : PySem.W.keepIn K (.ref f12) = true)
    (a13 : PySem.W.nsIn K mainGlobals "is_full_watcher" = some (some (.ref f13)))
    (l13 : K.lookup f13 = some ⟨oc13, od13, .func (PySem.W.fnOf "is_full_watcher" "is_full_watcher" (defArgs s_is_full_watcher) (defBody s_is_full_watcher) (defScope s_is_full_watcher) .none kV13 dc13 pm13 an13 cd13 ct13), sl13⟩)
    (c13 : PySem.W.codeIn K cd13 "is_full_watcher" = true)
    (k13 : PySem.W.keepIn K (.ref f13) = true)
    (a14 : PySem.W.nsIn K mainGlobals "watcher_fits" = some (some (.ref f14)))
    (l14 : K.lookup f14 = some ⟨oc14, od14, .func (PySem.W.fnOf "watcher_fits" "watcher_fits" (defArgs s_watcher_fits) (defBody s_watcher_fits) (defScope s_watcher_fits) .none kV14 dc14 pm14 an14 cd14 ct14), sl14⟩)
    (c14 : PySem.W.codeIn K cd14 "watcher_fits" = true)
    (k14 : PySem.W.keepIn K (.ref f14) = true)
    (a15 : PySem.W.nsIn K mainGlobals "judge_fewest" = some (some (.ref f15)))
    (l15 : K.lookup f15 = some ⟨oc15, od15, .func (PySem.W.fnOf "judge_fewest" "judge_fewest" (defArgs s_judge_fewest) (defBody s_judge_fewest) (defScope s_judge_fewest) .none kV15 dc15 pm15 an15 cd15 ct15), sl15⟩)
    (c15 : PySem.W.codeIn K cd15 "judge_fewest" = true)
    (k15 : PySem.W.keepIn K (.ref f15) = true)
    (a16 : PySem.W.nsIn K mainGlobals "_law_begin" = some (some (.ref f16)))
    (l16 : K.lookup f16 = some ⟨oc16, od16, .func (PySem.W.fnOf "_law_begin" "_law_begin" (defArgs s_l_begin) (defBody s_l_begin) (defScope s_l_begin) .none kV16 dc16 pm16 an16 cd16 ct16), sl16⟩)
    (c16 : PySem.W.codeIn K cd16 "_law_begin" = true)
    (k16 : PySem.W.keepIn K (.ref f16) = true)
    (a17 : PySem.W.nsIn K mainGlobals "_law_draw" = some (some (.ref f17)))
    (l17 : K.lookup f17 = some ⟨oc17, od17, .func (PySem.W.fnOf "_law_draw" "_law_draw" (defArgs s_l_draw) (defBody s_l_draw) (defScope s_l_draw) .none kV17 dc17 pm17 an17 cd17 ct17), sl17⟩)
    (c17 : PySem.W.codeIn K cd17 "_law_draw" = true)
    (k17 : PySem.W.keepIn K (.ref f17) = true)
    (a18 : PySem.W.nsIn K mainGlobals "_law_pick" = some (some (.ref f18)))
    (l18 : K.lookup f18 = some ⟨oc18, od18, .func (PySem.W.fnOf "_law_pick" "_law_pick" (defArgs s_l_pick) (defBody s_l_pick) (defScope s_l_pick) .none kV18 dc18 pm18 an18 cd18 ct18), sl18⟩)
    (c18 : PySem.W.codeIn K cd18 "_law_pick" = true)
    (k18 : PySem.W.keepIn K (.ref f18) = true)
    (a19 : PySem.W.nsIn K mainGlobals "_law_power" = some (some (.ref f19)))
    (l19 : K.lookup f19 = some ⟨oc19, od19, .func (PySem.W.fnOf "_law_power" "_law_power" (defArgs s_l_power) (defBody s_l_power) (defScope s_l_power) .none kV19 dc19 pm19 an19 cd19 ct19), sl19⟩)
    (c19 : PySem.W.codeIn K cd19 "_law_power" = true)
    (k19 : PySem.W.keepIn K (.ref f19) = true)
    (a20 : PySem.W.nsIn K mainGlobals "_law_digits" = some (some (.ref f20)))
    (l20 : K.lookup f20 = some ⟨oc20, od20, .func (PySem.W.fnOf "_law_digits" "_law_digits" (defArgs s_l_digits) (defBody s_l_digits) (defScope s_l_digits) .none kV20 dc20 pm20 an20 cd20 ct20), sl20⟩)
    (c20 : PySem.W.codeIn K cd20 "_law_digits" = true)
    (k20 : PySem.W.keepIn K (.ref f20) = true)
    (a21 : PySem.W.nsIn K mainGlobals "_law_in_order" = some (some (.ref f21)))
    (l21 : K.lookup f21 = some ⟨oc21, od21, .func (PySem.W.fnOf "_law_in_order" "_law_in_order" (defArgs s_l_in_order) (defBody s_l_in_order) (defScope s_l_in_order) .none kV21 dc21 pm21 an21 cd21 ct21), sl21⟩)
    (c21 : PySem.W.codeIn K cd21 "_law_in_order" = true)
    (k21 : PySem.W.keepIn K (.ref f21) = true)
    (a22 : PySem.W.nsIn K mainGlobals "_law_fit" = some (some (.ref f22)))
    (l22 : K.lookup f22 = some ⟨oc22, od22, .func (PySem.W.fnOf "_law_fit" "_law_fit" (defArgs s_l_fit) (defBody s_l_fit) (defScope s_l_fit) .none kV22 dc22 pm22 an22 cd22 ct22), sl22⟩)
    (c22 : PySem.W.codeIn K cd22 "_law_fit" = true)
    (k22 : PySem.W.keepIn K (.ref f22) = true)
    (a23 : PySem.W.nsIn K mainGlobals "_law_samples" = some (some (.ref f23)))
    (l23 : K.lookup f23 = some ⟨oc23, od23, .func (PySem.W.fnOf "_law_samples" "_law_samples" (defArgs s_l_samples) (defBody s_l_samples) (defScope s_l_samples) .none kV23 dc23 pm23 an23 cd23 ct23), sl23⟩)
    (c23 : PySem.W.codeIn K cd23 "_law_samples" = true)
    (k23 : PySem.W.keepIn K (.ref f23) = true)
    (a24 : PySem.W.nsIn K mainGlobals "_law_beginnings" = some (some (.ref f24)))
    (l24 : K.lookup f24 = some ⟨oc24, od24, .func (PySem.W.fnOf "_law_beginnings" "_law_beginnings" (defArgs s_l_beginnings) (defBody s_l_beginnings) (defScope s_l_beginnings) .none kV24 dc24 pm24 an24 cd24 ct24), sl24⟩)
    (c24 : PySem.W.codeIn K cd24 "_law_beginnings" = true)
    (k24 : PySem.W.keepIn K (.ref f24) = true)
    (a25 : PySem.W.nsIn K mainGlobals "_law_clashes" = some (some (.ref f25)))
    (l25 : K.lookup f25 = some ⟨oc25, od25, .func (PySem.W.fnOf "_law_clashes" "_law_clashes" (defArgs s_l_clashes) (defBody s_l_clashes) (defScope s_l_clashes) .none kV25 dc25 pm25 an25 cd25 ct25), sl25⟩)
    (c25 : PySem.W.codeIn K cd25 "_law_clashes" = true)
    (k25 : PySem.W.keepIn K (.ref f25) = true)
    (a26 : PySem.W.nsIn K mainGlobals "_law_tree_from" = some (some (.ref f26)))
    (l26 : K.lookup f26 = some ⟨oc26, od26, .func (PySem.W.fnOf "_law_tree_from" "_law_tree_from" (defArgs s_l_tree_from) (defBody s_l_tree_from) (defScope s_l_tree_from) .none kV26 dc26 pm26 an26 cd26 ct26), sl26⟩)
    (c26 : PySem.W.codeIn K cd26 "_law_tree_from" = true)
    (k26 : PySem.W.keepIn K (.ref f26) = true)
    (a27 : PySem.W.nsIn K mainGlobals "_law_has_fit" = some (some (.ref f27)))
    (l27 : K.lookup f27 = some ⟨oc27, od27, .func (PySem.W.fnOf "_law_has_fit" "_law_has_fit" (defArgs s_l_has_fit) (defBody s_l_has_fit) (defScope s_l_has_fit) .none kV27 dc27 pm27 an27 cd27 ct27), sl27⟩)
    (c27 : PySem.W.codeIn K cd27 "_law_has_fit" = true)
    (k27 : PySem.W.keepIn K (.ref f27) = true)
    (a28 : PySem.W.nsIn K mainGlobals "_law_wrong" = some (some (.ref f28)))
    (l28 : K.lookup f28 = some ⟨oc28, od28, .func (PySem.W.fnOf "_law_wrong" "_law_wrong" (defArgs s_l_wrong) (defBody s_l_wrong) (defScope s_l_wrong) .none kV28 dc28 pm28 an28 cd28 ct28), sl28⟩)
    (c28 : PySem.W.codeIn K cd28 "_law_wrong" = true)
    (k28 : PySem.W.keepIn K (.ref f28) = true)
    (a29 : PySem.W.nsIn K mainGlobals "_law_full" = some (some (.ref f29)))
    (l29 : K.lookup f29 = some ⟨oc29, od29, .func (PySem.W.fnOf "_law_full" "_law_full" (defArgs s_l_full) (defBody s_l_full) (defScope s_l_full) .none kV29 dc29 pm29 an29 cd29 ct29), sl29⟩)
    (c29 : PySem.W.codeIn K cd29 "_law_full" = true)
    (k29 : PySem.W.keepIn K (.ref f29) = true)
    (a30 : PySem.W.nsIn K mainGlobals "law" = some (some (.ref f30)))
    (l30 : K.lookup f30 = some ⟨oc30, od30, .func (PySem.W.fnOf "law" "law" (defArgs s_law) (defBody s_law) (defScope s_law) .none kV30 dc30 pm30 an30 cd30 ct30), sl30⟩)
    (c30 : PySem.W.codeIn K cd30 "law" = true)
    (k30 : PySem.W.keepIn K (.ref f30) = true)
    (z_len : PySem.W.nsIn K mainGlobals "len" = some none)
    (z_isinstance : PySem.W.nsIn K mainGlobals "isinstance" = some none)
    (z_int : PySem.W.nsIn K mainGlobals "int" = some none)
    (z_bool : PySem.W.nsIn K mainGlobals "bool" = some none)
    (z_tuple : PySem.W.nsIn K mainGlobals "tuple" = some none)
    (z_list : PySem.W.nsIn K mainGlobals "list" = some none)
    (z_range : PySem.W.nsIn K mainGlobals "range" = some none)
    (z_sorted : PySem.W.nsIn K mainGlobals "sorted" = some none)
    (z_enumerate : PySem.W.nsIn K mainGlobals "enumerate" = some none)
    (z_max : PySem.W.nsIn K mainGlobals "max" = some none)
    (z_min : PySem.W.nsIn K mainGlobals "min" = some none)
    (z_dict : PySem.W.nsIn K mainGlobals "dict" = some none)
    (z_abs : PySem.W.nsIn K mainGlobals "abs" = some none) :
    ∃ fd : FuncData, (∀ (s : Shared) (v : Value), BindsTo s fd ⟨[v], []⟩ [("script", v)]) ∧ ∀ base : Heap, K.In base → base.Ns mainGlobals mg → FnOk P w K mg base CX0 36 fa fd ["script"] (spLaw K) := by
  have e := hfa.symm.trans (PySem.W.mg_of X G a30)
  cases e
  have F00 := fun_mk (st := s_is_whole) l00 c00 k00
  have b00 := F00.binds (ps := ["thing"]) fun _ _ _ _ _ _ us hl => match us, hl with | [_], _ => rfl
  have g00 := PySem.W.mg_of X G a00
  have F01 := fun_mk (st := s_is_cells) l01 c01 k01
  have b01 := F01.binds (ps := ["thing", "base"]) fun _ _ _ _ _ _ us hl => match us, hl with | [_, _], _ => rfl
  have g01 := PySem.W.mg_of X G a01
  have F02 := fun_mk (st := s_is_wholes) l02 c02 k02
  have b02 := F02.binds (ps := ["thing"]) fun _ _ _ _ _ _ us hl => match us, hl with | [_], _ => rfl
  have g02 := PySem.W.mg_of X G a02
  have F03 := fun_mk (st := s_is_rows) l03 c03 k03
  have b03 := F03.binds (ps := ["thing", "width"]) fun _ _ _ _ _ _ us hl => match us, hl with | [_, _], _ => rfl
  have g03 := PySem.W.mg_of X G a03
  have F04 := fun_mk (st := s_walk) l04 c04 k04
  have b04 := F04.binds (ps := ["rows", "number", "cells"]) fun _ _ _ _ _ _ us hl => match us, hl with | [_, _, _], _ => rfl
  have g04 := PySem.W.mg_of X G a04
  have F05 := fun_mk (st := s_in_order) l05 c05 k05
  have b05 := F05.binds (ps := ["files"]) fun _ _ _ _ _ _ us hl => match us, hl with | [_], _ => rfl
  have g05 := PySem.W.mg_of X G a05
  have F06 := fun_mk (st := s_beginnings_of) l06 c06 k06
  have b06 := F06.binds (ps := ["files"]) fun _ _ _ _ _ _ us hl => match us, hl with | [_], _ => rfl
  have g06 := PySem.W.mg_of X G a06
  have F07 := fun_mk (st := s_r_init) l07 c07 k07
  have b07 := F07.binds (ps := ["self"]) fun _ _ _ _ _ _ us hl => match us, hl with | [_], _ => rfl
  have M07 : Meth K CR "__init__" f07 := ⟨a07, i07, k07⟩
  have F08 := fun_mk (st := s_r_copied) l08 c08 k08
  have b08 := F08.binds (ps := ["self"]) fun _ _ _ _ _ _ us hl => match us, hl with | [_], _ => rfl
  have M08 : Meth K CR "copied" f08 := ⟨a08, i08, k08⟩
  have F09 := fun_mk (st := s_r_forced) l09 c09 k09
  have b09 := F09.binds (ps := ["self", "word"]) fun _ _ _ _ _ _ us hl => match us, hl with | [_, _], _ => rfl
  have M09 : Meth K CR "forced" f09 := ⟨a09, i09, k09⟩
  have F10 := fun_mk (st := s_r_give) l10 c10 k10
  have b10 := F10.binds (ps := ["self", "word", "row", "samples"]) fun _ _ _ _ _ _ us hl => match us, hl with | [_, _, _, _], _ => rfl
  have M10 : Meth K CR "give" f10 := ⟨a10, i10, k10⟩
  have F11 := fun_mk (st := s_is_bad) l11 c11 k11
  have b11 := F11.binds (ps := ["state", "samples", "tree", "base"]) fun _ _ _ _ _ _ us hl => match us, hl with | [_, _, _, _], _ => rfl
  have g11 := PySem.W.mg_of X G a11
  have F12 := fun_mk (st := s_bars) l12 c12 k12
  have b12 := F12.binds (ps := ["state", "words", "samples", "most", "tree", "base"]) fun _ _ _ _ _ _ us hl => match us, hl with | [_, _, _, _, _, _], _ => rfl
  have g12 := PySem.W.mg_of X G a12
  have F13 := fun_mk (st := s_is_full_watcher) l13 c13 k13
  have b13 := F13.binds (ps := ["rows", "base"]) fun _ _ _ _ _ _ us hl => match us, hl with | [_, _], _ => rfl
  have g13 := PySem.W.mg_of X G a13
  have F14 := fun_mk (st := s_watcher_fits) l14 c14 k14
  have b14 := F14.binds (ps := ["rows", "right", "wrong"]) fun _ _ _ _ _ _ us hl => match us, hl with | [_, _, _], _ => rfl
  have g14 := PySem.W.mg_of X G a14
  have F15 := fun_mk (st := s_judge_fewest) l15 c15 k15
  have b15 := F15.binds (ps := ["base", "right", "wrong", "most", "answer"]) fun _ _ _ _ _ _ us hl => match us, hl with | [_, _, _, _, _], _ => rfl
  have g15 := PySem.W.mg_of X G a15
  have F16 := fun_mk (st := s_l_begin) l16 c16 k16
  have b16 := F16.binds (ps := ["script"]) fun _ _ _ _ _ _ us hl => match us, hl with | [_], _ => rfl
  have g16 := PySem.W.mg_of X G a16
  have F17 := fun_mk (st := s_l_draw) l17 c17 k17
  have b17 := F17.binds (ps := ["d", "many"]) fun _ _ _ _ _ _ us hl => match us, hl with | [_, _], _ => rfl
  have g17 := PySem.W.mg_of X G a17
  have F18 := fun_mk (st := s_l_pick) l18 c18 k18
  have b18 := F18.binds (ps := ["d", "row"]) fun _ _ _ _ _ _ us hl => match us, hl with | [_, _], _ => rfl
  have g18 := PySem.W.mg_of X G a18
  have F19 := fun_mk (st := s_l_power) l19 c19 k19
  have b19 := F19.binds (ps := ["base", "width"]) fun _ _ _ _ _ _ us hl => match us, hl with | [_, _], _ => rfl
  have g19 := PySem.W.mg_of X G a19
  have F20 := fun_mk (st := s_l_digits) l20 c20 k20
  have b20 := F20.binds (ps := ["number", "width", "base"]) fun _ _ _ _ _ _ us hl => match us, hl with | [_, _, _], _ => rfl
  have g20 := PySem.W.mg_of X G a20
  have F21 := fun_mk (st := s_l_in_order) l21 c21 k21
  have b21 := F21.binds (ps := ["files"]) fun _ _ _ _ _ _ us hl => match us, hl with | [_], _ => rfl
  have g21 := PySem.W.mg_of X G a21
  have F22 := fun_mk (st := s_l_fit) l22 c22 k22
  have b22 := F22.binds (ps := ["samples", "many", "links"]) fun _ _ _ _ _ _ us hl => match us, hl with | [_, _, _], _ => rfl
  have g22 := PySem.W.mg_of X G a22
  have F23 := fun_mk (st := s_l_samples) l23 c23 k23
  have b23 := F23.binds (ps := ["d", "many"]) fun _ _ _ _ _ _ us hl => match us, hl with | [_, _], _ => rfl
  have g23 := PySem.W.mg_of X G a23
  have F24 := fun_mk (st := s_l_beginnings) l24 c24 k24
  have b24 := F24.binds (ps := ["words"]) fun _ _ _ _ _ _ us hl => match us, hl with | [_], _ => rfl
  have g24 := PySem.W.mg_of X G a24
  have F25 := fun_mk (st := s_l_clashes) l25 c25 k25
  have b25 := F25.binds (ps := ["given", "right", "wrong"]) fun _ _ _ _ _ _ us hl => match us, hl with | [_, _, _], _ => rfl
  have g25 := PySem.W.mg_of X G a25
  have F26 := fun_mk (st := s_l_tree_from) l26 c26 k26
  have b26 := F26.binds (ps := ["d", "words", "given", "links", "right", "wrong", "many"]) fun _ _ _ _ _ _ us hl => match us, hl with | [_, _, _, _, _, _, _], _ => rfl
  have g26 := PySem.W.mg_of X G a26
  have F27 := fun_mk (st := s_l_has_fit) l27 c27 k27
  have b27 := F27.binds (ps := ["tree"]) fun _ _ _ _ _ _ us hl => match us, hl with | [_], _ => rfl
  have g27 := PySem.W.mg_of X G a27
  have F28 := fun_mk (st := s_l_wrong) l28 c28 k28
  have b28 := F28.binds (ps := ["d", "tree"]) fun _ _ _ _ _ _ us hl => match us, hl with | [_, _], _ => rfl
  have g28 := PySem.W.mg_of X G a28
  have F29 := fun_mk (st := s_l_full) l29 c29 k29
  have b29 := F29.binds (ps := ["right", "wrong", "many"]) fun _ _ _ _ _ _ us hl => match us, hl with | [_, _, _], _ => rfl
  have g29 := PySem.W.mg_of X G a29
  have F30 := fun_mk (st := s_law) l30 c30 k30
  have b30 := F30.binds (ps := ["script"]) fun _ _ _ _ _ _ us hl => match us, hl with | [_], _ => rfl
  have g30 := PySem.W.mg_of X G a30
  have T : Txt K mg CR :=
    { z_len := PySem.W.mg_none_of X G z_len, z_isinstance := PySem.W.mg_none_of X G z_isinstance, z_int := PySem.W.mg_none_of X G z_int, z_bool := PySem.W.mg_none_of X G z_bool, z_tuple := PySem.W.mg_none_of X G z_tuple, z_list := PySem.W.mg_none_of X G z_list, z_range := PySem.W.mg_none_of X G z_range, z_sorted := PySem.W.mg_none_of X G z_sorted, z_enumerate := PySem.W.mg_none_of X G z_enumerate, z_max := PySem.W.mg_none_of X G z_max, z_min := PySem.W.mg_none_of X G z_min, z_dict := PySem.W.mg_none_of X G z_dict, z_abs := PySem.W.mg_none_of X G z_abs, cl := ⟨pgCR, hdCR, poCR, saCR⟩, nG := nCR_given, nL := nCR_links, nU := nCR_used, nR := nCR_right_at, nW := nCR_wrong_at }
  refine ⟨PySem.W.fnOf "law" "law" (defArgs s_law) (defBody s_law) (defScope s_law) .none kV30 dc30 pm30 an30 cd30 ct30, fun s v => .of_eq rfl, fun base _ _ => ?_⟩
  have c_whole : CalX P w K mg base CX0 1 "is_whole" spIsInt := ⟨_, _, _, ok_is_int F00 T, g00, k00, b00⟩
  have c_cells : CalX P w K mg base CX0 2 "is_cells" spCells := ⟨_, _, _, ok_is_cells F01 T c_whole, g01, k01, b01⟩
  have c_wholes : CalX P w K mg base CX0 2 "is_wholes" spWholes := ⟨_, _, _, ok_is_wholes F02 T c_whole, g02, k02, b02⟩
  have c_rows : CalX P w K mg base CX0 1 "is_rows" spRows := ⟨_, _, _, ok_is_rows F03 T, g03, k03, b03⟩
  have c_walk : CalX P w K mg base CX0 1 "walk" spWalk := ⟨_, _, _, ok_walk F04 T, g04, k04, b04⟩
  have c_order : CalX P w K mg base CX0 1 "in_order" spOrder := ⟨_, _, _, ok_in_order F05 T, g05, k05, b05⟩
  have c_beg : CalX P w K mg base CX0 2 "beginnings_of" spBeg := ⟨_, _, _, ok_beginnings F06 T c_order, g06, k06, b06⟩
  have n_row : MakX P w K mg base CX0 1 "RowState" CR (spInit CR) := ⟨_, _, _, ⟨mkCR, a07, i07, kcCR⟩, ok_r_init F07 T, PySem.W.mg_of X G aCR, b07⟩
  have m_forced : MetX P w K mg base CX0 1 CR "forced" (spForced CR) := ⟨_, _, _, ok_r_forced F09 T, T.cl, M09, b09⟩
  have m_give : MetX P w K mg base CX0 1 CR "give" (spGive CR) := ⟨_, _, _, ok_r_give F10 T, T.cl, M10, b10⟩
  have m_copied : MetX P w K mg base CX0 3 CR "copied" (spCopied CR) := ⟨_, _, _, ok_r_copied F08 T n_row, T.cl, M08, b08⟩
  have c_bad : CalX P w K mg base CX0 3 "is_bad" (spIsBad CR) := ⟨_, _, _, ok_is_bad F11 T c_cells, g11, k11, b11⟩
  have c_bars := all_bars (P := P) (w := w) (base := base) T F12 g12 k12 b12 m_forced m_give m_copied c_bad
  have c_full : CalX P w K mg base CX0 3 "is_full_watcher" spFull := ⟨_, _, _, ok_full F13 T c_whole c_wholes c_rows, g13, k13, b13⟩
  have c_fits : CalX P w K mg base CX0 2 "watcher_fits" spFits := ⟨_, _, _, ok_fits F14 T c_walk, g14, k14, b14⟩
  have c_judge : CalX P w K mg base CX0 35 "judge_fewest" (spJudge 30) := ⟨_, _, _, ok_judge (n := 30) F15 T c_beg (c_bars 31) n_row c_full c_fits, g15, k15, b15⟩
  have c_begin : CalX P w K mg base CX0 1 "_law_begin" (spBegin K) := ⟨_, _, _, ok_begin F16 T, g16, k16, b16⟩
  have c_draw : CalX P w K mg base CX0 1 "_law_draw" spDraw := ⟨_, _, _, ok_draw F17 T, g17, k17, b17⟩
  have c_pick : CalX P w K mg base CX0 2 "_law_pick" spPick := ⟨_, _, _, ok_pick F18 T c_draw, g18, k18, b18⟩
  have c_power : CalX P w K mg base CX0 1 "_law_power" spPower := ⟨_, _, _, ok_power F19 T, g19, k19, b19⟩
  have c_digits : CalX P w K mg base CX0 1 "_law_digits" spDigits := ⟨_, _, _, ok_digits F20 T, g20, k20, b20⟩
  have c_lorder : CalX P w K mg base CX0 1 "_law_in_order" spLOrder := ⟨_, _, _, ok_lorder F21 T, g21, k21, b21⟩
  have c_lbeg : CalX P w K mg base CX0 2 "_law_beginnings" spLBeg := ⟨_, _, _, ok_lbeg F24 T c_lorder, g24, k24, b24⟩
  have c_fit := all_fit (P := P) (w := w) (base := base) T F22 g22 k22 b22 7
  have c_samples : CalX P w K mg base CX0 3 "_law_samples" (spSamples 100) := ⟨_, _, _, ok_samples F23 T c_draw c_pick, g23, k23, b23⟩
  have c_clashes : CalX P w K mg base CX0 1 "_law_clashes" spClashes := ⟨_, _, _, ok_clashes F25 T, g25, k25, b25⟩
  have c_tree := all_tree (P := P) (w := w) (base := base) T F26 g26 k26 b26 c_clashes c_pick 31
  have c_has := all_has (P := P) (w := w) (base := base) T F27 g27 k27 b27 31
  have c_wrong := all_wrong (P := P) (w := w) (base := base) T F28 g28 k28 b28 c_draw c_pick 31
  have c_lfull : CalX P w K mg base CX0 2 "_law_full" spLFull := ⟨_, _, _, ok_lfull F29 T c_power c_digits, g29, k29, b29⟩
  exact ok_law F30 T c_begin c_samples c_draw c_lbeg (cal_mono c_tree (by decide)) (cal_mono c_fit (by decide)) (cal_mono c_has (by decide)) c_judge (cal_mono c_wrong (by decide)) c_lfull
theorem walk {l : PySem.W.OpenLaw} {q : Program} {loose : List Str} {XP : (Str → Option Value) → Heap → Prop} {YP : World → Heap → Prop} {d : DefRec} {K : Params → PySem.W.Frag} (hn : l.most = some 63) (hdf : d.params.defaults = [])
    (hY : ∀ (w : World) (h : Heap), YP w h → (K w.params).In h)
    (F : ∀ (w : World) (mg : Str → Option Value) (fa : Addr) (h : Heap), (K w.params).In h → h.Ns mainGlobals mg → mg d.name = some (.ref fa) →
      ∃ fd : FuncData, (∀ (s : Shared) (u : Value), BindsTo s fd ⟨[u], []⟩ [("script", u)]) ∧ ∀ base : Heap, (K w.params).In base → base.Ns mainGlobals mg → FnOk l.prog w (K w.params) mg base CX0 36 fa fd ["script"] (spLaw (K w.params))) :
    PySem.W.WalkO q loose XP YP l.row.toRowW d [] (fun f vs => PySem.call f vs) :=
  L2.walk_of (n := 63) (k := 36) (x := "script") (CX := fun _ => CX0) (sp := fun w => spLaw (K w.params)) hn (by decide) hdf ⟨rfl, by decide, by decide⟩ hY F (fun _ _ a ns hl _ hS => ⟨a, ns, rfl, hS, hl, fun _ => rfl⟩) fun _ _ _ _ _ z => z

end Toy

open PySem PySem.W PyProof.Rows in
set_option maxRecDepth 100000 in
set_option maxHeartbeats 0 in
theorem PySem.Challenge.cw_formatory_k82_barring_judged_holds : PySem.Challenge.rw_formatory_k82_barring_judged.Holds := by
  w_on; o_law; k_head; (case hw => w_witness2)
  k_fill
  refine Toy.walk (l := PySem.Challenge.rw_formatory_k82_barring_judged) rfl rfl (fun w h Y => PySem.W.kIn_of Y) ?F
  case F =>
    intro w mg fa h KX G hmg
    refine' Toy.all_mk KX G hmg ?aCR ?pgCR ?hdCR ?poCR ?saCR ?mkCR ?kcCR ?nCR_given ?nCR_links ?nCR_used ?nCR_right_at ?nCR_wrong_at ?a00 ?l00 ?c00 ?k00 ?a01 ?l01 ?c01 ?k01 ?a02 ?l02 ?c02 ?k02 ?a03 ?l03 ?c03 ?k03 ?a04 ?l04 ?c04 ?k04 ?a05 ?l05 ?c05 ?k05 ?a06 ?l06 ?c06 ?k06 ?a07 ?i07 ?l07 ?c07 ?k07 ?a08 ?i08 ?l08 ?c08 ?k08 ?a09 ?i09 ?l09 ?c09 ?k09 ?a10 ?i10 ?l10 ?c10 ?k10 ?a11 ?l11 ?c11 ?k11 ?a12 ?l12 ?c12 ?k12 ?a13 ?l13 ?c13 ?k13 ?a14 ?l14 ?c14 ?k14 ?a15 ?l15 ?c15 ?k15 ?a16 ?l16 ?c16 ?k16 ?a17 ?l17 ?c17 ?k17 ?a18 ?l18 ?c18 ?k18 ?a19 ?l19 ?c19 ?k19 ?a20 ?l20 ?c20 ?k20 ?a21 ?l21 ?c21 ?k21 ?a22 ?l22 ?c22 ?k22 ?a23 ?l23 ?c23 ?k23 ?a24 ?l24 ?c24 ?k24 ?a25 ?l25 ?c25 ?k25 ?a26 ?l26 ?c26 ?k26 ?a27 ?l27 ?c27 ?k27 ?a28 ?l28 ?c28 ?k28 ?a29 ?l29 ?c29 ?k29 ?a30 ?l30 ?c30 ?k30 ?z_len ?z_isinstance ?z_int ?z_bool ?z_tuple ?z_list ?z_range ?z_sorted ?z_enumerate ?z_max ?z_min ?z_dict ?z_abs
    (case aCR => k_is)
    (case pgCR => k_is)
    (case hdCR => k_is)
    (case poCR => k_is)
    (case saCR => k_is)
    (case mkCR => k_is)
    (case kcCR => k_is)
    (case nCR_given => k_is)
    (case nCR_links => k_is)
    (case nCR_used => k_is)
    (case nCR_right_at => k_is)
    (case nCR_wrong_at => k_is)
    (case a00 => k_is)
    (case l00 => k_is)
    (case c00 => k_is)
    (case k00 => k_is)
    (case a01 => k_is)
    (case l01 => k_is)
    (case c01 => k_is)
    (case k01 => k_is)
    (case a02 => k_is)
    (case l02 => k_is)
    (case c02 => k_is)
    (case k02 => k_is)
    (case a03 => k_is)
    (case l03 => k_is)
    (case c03 => k_is)
    (case k03 => k_is)
    (case a04 => k_is)
    (case l04 => k_is)
    (case c04 => k_is)
    (case k04 => k_is)
    (case a05 => k_is)
    (case l05 => k_is)
    (case c05 => k_is)
    (case k05 => k_is)
    (case a06 => k_is)
    (case l06 => k_is)
    (case c06 => k_is)
    (case k06 => k_is)
    (case a07 => k_is)
    (case i07 => k_is)
    (case l07 => k_is)
    (case c07 => k_is)
    (case k07 => k_is)
    (case a08 => k_is)
    (case i08 => k_is)
    (case l08 => k_is)
    (case c08 => k_is)
    (case k08 => k_is)
    (case a09 => k_is)
    (case i09 => k_is)
    (case l09 => k_is)
    (case c09 => k_is)
    (case k09 => k_is)
    (case a10 => k_is)
    (case i10 => k_is)
    (case l10 => k_is)
    (case c10 => k_is)
    (case k10 => k_is)
    (case a11 => k_is)
    (case l11 => k_is)
    (case c11 => k_is)
    (case k11 => k_is)
    (case a12 => k_is)
    (case l12 => k_is)
    (case c12 => k_is)
    (case k12 => k_is)
    (case a13 => k_is)
    (case l13 => k_is)
    (case c13 => k_is)
    (case k13 => k_is)
    (case a14 => k_is)
    (case l14 => k_is)
    (case c14 => k_is)
    (case k14 => k_is)
    (case a15 => k_is)
    (case l15 => k_is)
    (case c15 => k_is)
    (case k15 => k_is)
    (case a16 => k_is)
    (case l16 => k_is)
    (case c16 => k_is)
    (case k16 => k_is)
    (case a17 => k_is)
    (case l17 => k_is)
    (case c17 => k_is)
    (case k17 => k_is)
    (case a18 => k_is)
    (case l18 => k_is)
    (case c18 => k_is)
    (case k18 => k_is)
    (case a19 => k_is)
    (case l19 => k_is)
    (case c19 => k_is)
    (case k19 => k_is)
    (case a20 => k_is)
    (case l20 => k_is)
    (case c20 => k_is)
    (case k20 => k_is)
    (case a21 => k_is)
    (case l21 => k_is)
    (case c21 => k_is)
    (case k21 => k_is)
    (case a22 => k_is)
    (case l22 => k_is)
    (case c22 => k_is)
    (case k22 => k_is)
    (case a23 => k_is)
    (case l23 => k_is)
    (case c23 => k_is)
    (case k23 => k_is)
    (case a24 => k_is)
    (case l24 => k_is)
    (case c24 => k_is)
    (case k24 => k_is)
    (case a25 => k_is)
    (case l25 => k_is)
    (case c25 => k_is)
    (case k25 => k_is)
    (case a26 => k_is)
    (case l26 => k_is)
    (case c26 => k_is)
    (case k26 => k_is)
    (case a27 => k_is)
    (case l27 => k_is)
    (case c27 => k_is)
    (case k27 => k_is)
    (case a28 => k_is)
    (case l28 => k_is)
    (case c28 => k_is)
    (case k28 => k_is)
    (case a29 => k_is)
    (case l29 => k_is)
    (case c29 => k_is)
    (case k29 => k_is)
    (case a30 => k_is)
    (case l30 => k_is)
    (case c30 => k_is)
    (case k30 => k_is)
    (case z_len => k_is)
    (case z_isinstance => k_is)
    (case z_int => k_is)
    (case z_bool => k_is)
    (case z_tuple => k_is)
    (case z_list => k_is)
    (case z_range => k_is)
    (case z_sorted => k_is)
    (case z_enumerate => k_is)
    (case z_max => k_is)
    (case z_min => k_is)
    (case z_dict => k_is)
    (case z_abs => k_is)
