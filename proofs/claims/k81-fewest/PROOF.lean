import PyProof.Rows.All
import Wide.All
import OpenK.AllK
import Wide.FinOn
import PyProof.EqAt
import PyProof.EqKinds
import PyProof.TupleCall
import PySem.Challenge.RW_formatory_k81_fewest_rows
import KE.KFromBytes
import KE.KExcSuper
import HandS.ExcSuper
import HandS.ExcInit
import HandS.ForMost
import HandS.ForExc
import HandS.IsInst
import HandS.Codes
import HandS.Conv
import HandS.ExcField
import HandS.Wide
import KE.IntTextLaws
import HandS.SortOrd
import HandS.SortRule
import HandS.TupLe
import HandS.TupSets
import HandS.DictTup
import HandS.DictComp
import HandS.Deep
import HandS.Iter
import HandS.SetKeys
import HandS.More
import HandS.List
import KE.KSortTup
import KE.KDictCopyH
import KE.KDictOf
import KE.GoesEnum
import KE.GoesMore
import PyProof.Draws
import HandS.Walk
import PyProof.Rows.TupDisplay
import KE.DataEq
import HandS.TupAny
import HandS.TupLen
set_option Elab.async false
set_option linter.all false
set_option maxRecDepth 100000
set_option maxHeartbeats 4000000
/-! sorted of pairs (a whole number, a tuple of whole numbers) -/
namespace LW
def lexL : List Int → List Int → Bool
  | _, [] => false
  | [], _ :: _ => true
  | x :: xs, y :: ys => if x = y then lexL xs ys else decide (x < y)
theorem lexL_nil (l : List Int) : lexL l [] = false := by cases l <;> rfl
theorem lexL_asym : ∀ a b : List Int, lexL a b = true → lexL b a = false
  | a, [], h => by rw [lexL_nil] at h; cases h
  | [], y :: ys, _ => lexL_nil _
  | x :: xs, y :: ys, h => by
    unfold lexL at h ⊢
    by_cases e : x = y
    · subst e
      rw [if_pos rfl] at h ⊢
      exact lexL_asym _ _ h
    · rw [if_neg e] at h
      rw [if_neg (fun z => e z.symm)]
      have := of_decide_eq_true h
      exact decide_eq_false (by omega)
theorem lexL_tr : ∀ a b c : List Int, lexL b a = false → lexL c b = false → lexL c a = false
  | [], b, c, _, _ => lexL_nil _
  | x :: xs, b, [], h1, h2 => by
    cases b with
    | nil => exact absurd h1 (by unfold lexL; decide)
    | cons y ys => exact absurd h2 (by unfold lexL; decide)
  | x :: xs, [], z :: zs, h1, h2 => absurd h1 (by unfold lexL; decide)
  | x :: xs, y :: ys, z :: zs, h1, h2 => by
    unfold lexL at h1 h2 ⊢
    by_cases e1 : y = x
    · subst e1
      rw [if_pos rfl] at h1
      by_cases e2 : z = y
      · subst e2
        rw [if_pos rfl] at h2 ⊢
        exact lexL_tr _ _ _ h1 h2
      · rw [if_neg e2] at h2 ⊢
        exact h2
    · rw [if_neg e1] at h1
      have := of_decide_eq_false h1
      by_cases e2 : z = y
      · subst e2
        rw [if_neg e1]
        exact h1
      · rw [if_neg e2] at h2
        have := of_decide_eq_false h2
        have e3 : z ≠ x := by omega
        rw [if_neg e3]
        exact decide_eq_false (by omega)
theorem lexL_tri : ∀ a b : List Int, lexL a b = false → lexL b a = false → a = b
  | [], [], _, _ => rfl
  | [], y :: ys, h, _ => absurd h (by unfold lexL; decide)
  | x :: xs, [], _, h => absurd h (by unfold lexL; decide)
  | x :: xs, y :: ys, h1, h2 => by
    unfold lexL at h1 h2
    by_cases e : x = y
    · subst e
      rw [if_pos rfl] at h1 h2
      rw [lexL_tri _ _ h1 h2]
    · rw [if_neg e] at h1
      rw [if_neg (fun z => e z.symm)] at h2
      have := of_decide_eq_false h1
      have := of_decide_eq_false h2
      omega
/-- by the number, then by the tuple -/
def lexN (p q : Int × List Int) : Bool := if p.1 = q.1 then lexL p.2 q.2 else decide (p.1 < q.1)
theorem lexN_swo {α : Type} (k : α → Int × List Int) : SrtO.Swo fun u v => lexN (k u) (k v) := by
  refine ⟨fun x y h => ?_, fun x y z h1 h2 => ?_⟩
  · unfold lexN at h ⊢
    by_cases e : (k x).1 = (k y).1
    · rw [if_pos e] at h
      rw [if_pos e.symm]
      exact lexL_asym _ _ h
    · rw [if_neg e] at h
      rw [if_neg (fun z => e z.symm)]
      have := of_decide_eq_true h
      exact decide_eq_false (by omega)
  · unfold lexN at h1 h2 ⊢
    by_cases e1 : (k y).1 = (k x).1
    · rw [if_pos e1] at h1
      by_cases e2 : (k z).1 = (k y).1
      · rw [if_pos e2] at h2
        rw [if_pos (e2.trans e1)]
        exact lexL_tr _ _ _ h1 h2
      · rw [if_neg e2] at h2
        rw [if_neg (fun c => e2 (c.trans e1.symm)), ← e1]
        exact h2
    · rw [if_neg e1] at h1
      have := of_decide_eq_false h1
      by_cases e2 : (k z).1 = (k y).1
      · rw [if_pos e2] at h2
        have e3 : (k z).1 ≠ (k x).1 := by omega
        rw [if_neg e3]
        exact decide_eq_false (by omega)
      · rw [if_neg e2] at h2
        have := of_decide_eq_false h2
        have e3 : (k z).1 ≠ (k x).1 := by omega
        rw [if_neg e3]
        exact decide_eq_false (by omega)
theorem lexN_tri (p q : Int × List Int) (h1 : lexN p q = false) (h2 : lexN q p = false) : p = q := by
  unfold lexN at h1 h2
  by_cases e : p.1 = q.1
  · rw [if_pos e] at h1
    rw [if_pos e.symm] at h2
    exact Prod.ext e (lexL_tri _ _ h1 h2)
  · rw [if_neg e] at h1
    rw [if_neg (fun z => e z.symm)] at h2
    have := of_decide_eq_false h1
    have := of_decide_eq_false h2
    omega
theorem at_shift {e r : Nat → Bool} {z : Bool} : ∀ (n i : Nat), Ob.lexAt (fun j => e (j + 1)) (fun j => r (j + 1)) z i n = Ob.lexAt e r z (i + 1) n
  | 0, _ => rfl
  | n + 1, i => by rw [Ob.lexAt_succ, Ob.lexAt_succ, at_shift n (i + 1)]
theorem at_lex : ∀ ns ms : List Int, Ob.lexAt (fun j => decide (ns.getD j 0 = ms.getD j 0)) (fun j => decide (ns.getD j 0 < ms.getD j 0)) (decide (ns.length < ms.length)) 0 (min ns.length ms.length) = lexL ns ms
  | ns, [] => by
    rw [lexL_nil, List.length_nil, Nat.min_zero]
    exact decide_eq_false (Nat.not_lt_zero _)
  | [], m :: ms => by
    rw [List.length_nil, Nat.zero_min]
    exact decide_eq_true (Nat.succ_pos _)
  | n :: ns, m :: ms => by
    have ih := at_lex ns ms
    rw [List.length_cons, List.length_cons, Nat.succ_min_succ, Ob.lexAt_succ]
    have sh := at_shift (e := fun j => decide ((n :: ns).getD j 0 = (m :: ms).getD j 0)) (r := fun j => decide ((n :: ns).getD j 0 < (m :: ms).getD j 0)) (z := decide (ns.length + 1 < ms.length + 1)) (min ns.length ms.length) 0
    have z : decide (ns.length + 1 < ms.length + 1) = decide (ns.length < ms.length) := by
      by_cases c : ns.length < ms.length
      · rw [decide_eq_true c, decide_eq_true (Nat.succ_lt_succ c)]
      · rw [decide_eq_false c, decide_eq_false (fun q => c (Nat.lt_of_succ_lt_succ q))]
    have e1 : (fun j => decide ((n :: ns).getD (j + 1) 0 = (m :: ms).getD (j + 1) 0)) = fun j => decide (ns.getD j 0 = ms.getD j 0) := by funext j; rw [List.getD_cons_succ, List.getD_cons_succ]
    have e2 : (fun j => decide ((n :: ns).getD (j + 1) 0 < (m :: ms).getD (j + 1) 0)) = fun j => decide (ns.getD j 0 < ms.getD j 0) := by funext j; rw [List.getD_cons_succ, List.getD_cons_succ]
    rw [e1, e2, z, ih] at sh
    rw [z, ← sh, show lexL (n :: ns) (m :: ms) = if n = m then lexL ns ms else decide (n < m) by rw [lexL]]
    rw [List.getD_cons_zero, List.getD_cons_zero]
    by_cases c : n = m
    · rw [if_pos c, if_pos (decide_eq_true c)]
    · rw [if_neg c, if_neg (by rw [decide_eq_false c]; decide)]
end LW
namespace LW
open PySem PySem.Spec PyProof.Rows
section
variable {prog : Program} {w : World} {A : Around} {E : Value → Shared → Prop} {s : Shared}
/-- the tuple at b of these whole numbers -/
def Nums (h : Heap) (b : Addr) (ns : List Int) : Prop := ∃ its : Array Value, h.IsTuple b its ∧ IntsAre its.toList ns ∧ IsTupleKey (L2.mixKind prog w) h (ns.map Sum.inl) b
/-- v is the pair (x, the tuple of ns) -/
def PairLW (prog : Program) (w : World) (h : Heap) (v : Value) (k : Int × List Int) : Prop := ∃ a o t b n, v = .ref a ∧ h.get? a = some o ∧ o.cls = .type "tuple" ∧ o.data = .seq #[.int k.1 t, .ref b] n ∧ Nums (prog := prog) (w := w) h b k.2
theorem Nums.keeps {h h' : Heap} {b : Addr} {ns : List Int} (x : Nums (prog := prog) (w := w) h b ns) (k : ∀ b o, h.get? b = some o → o.cls = .type "tuple" → h'.get? b = some o) : Nums (prog := prog) (w := w) h' b ns := by
  obtain ⟨its, ⟨o, ho, hc, r⟩, hi, ⟨o3, it3, n3, ho3, hc3, r3⟩⟩ := x
  exact ⟨its, ⟨o, k _ _ ho hc, hc, r⟩, hi, ⟨o3, it3, n3, k _ _ ho3 hc3, hc3, r3⟩⟩
theorem PairLW.keeps {h h' : Heap} {v : Value} {k : Int × List Int} (x : PairLW prog w h v k) (kp : ∀ b o, h.get? b = some o → o.cls = .type "tuple" → h'.get? b = some o) : PairLW prog w h' v k := by
  obtain ⟨a, o, t, b, n, e, ho, hc, hd, hn⟩ := x
  exact ⟨a, o, t, b, n, e, kp _ _ ho hc, hc, hd, hn.keeps kp⟩
theorem lt_nums {b c : Addr} {ns ms : List Int} {Q : Value → Shared → Prop} (hb : Nums (prog := prog) (w := w) s.heap b ns) (hc : Nums (prog := prog) (w := w) s.heap c ms) (hu : A.units < cLine) (h : Q (.bool (lexL ns ms)) s) :
    wpAny (model prog w) A (compareOp .Lt (.ref b) (.ref c)) Q E s := by
  obtain ⟨its, p1, i1, _⟩ := hb
  obtain ⟨its2, p2, i2, _⟩ := hc
  have n1 : its.size = ns.length := by rw [← Array.length_toList]; exact i1.length
  have n2 : its2.size = ms.length := by rw [← Array.length_toList]; exact i2.length
  have v1 : ∀ j (h1 : j < its.size), ∃ t, its[j] = .int (ns.getD j 0) t := fun j h1 => PyProof.Rows.IntsAre.int_at i1 _ _ (by simp [h1])
  have v2 : ∀ j (h1 : j < its2.size), ∃ t, its2[j] = .int (ms.getD j 0) t := fun j h1 => PyProof.Rows.IntsAre.int_at i2 _ _ (by simp [h1])
  have R := Ob.RcOp.tuples_lt (A := A) (s := s) (e := fun j => decide (ns.getD j 0 = ms.getD j 0)) (r := fun j => decide (ns.getD j 0 < ms.getD j 0)) p1 p2 hu (fun j g1 g2 => by
    obtain ⟨t, e1⟩ := v1 j g1
    obtain ⟨t', e2⟩ := v2 j g2
    rw [e1, e2]
    have z : decide (ns.getD j 0 = ms.getD j 0) = (ns.getD j 0 == ms.getD j 0) := by
      by_cases c : ns.getD j 0 = ms.getD j 0
      · rw [decide_eq_true c, beq_iff_eq.mpr c]
      · rw [decide_eq_false c, beq_eq_false_iff_ne.mpr c]
    rw [z]
    exact SeqAt.EqAt.int_int _ _ _ _) (fun j g1 g2 _ => by
    obtain ⟨t, e1⟩ := v1 j g1
    obtain ⟨t', e2⟩ := v2 j g2
    rw [e1, e2]
    exact Ob.RcOp.lt_int _ _ _ _)
  rw [n1, n2, at_lex] at R
  exact R prog w E Q h
theorem lw_cmp {vs : List Value} {k : Value → Int × List Int} (hu : A.units < cLine) (hp : ∀ v ∈ vs, PairLW prog w s.heap v (k v)) : SrtO.Cmp prog w A s (tuples' true) (fun p => p.1 ∈ vs) (SrtO.lt2 fun u v => lexN (k u) (k v)) := by
  intro p q mp mq
  have c1 := hp _ mp
  have c2 := hp _ mq
  show wpAny (model prog w) A (keyLt' (tuples' true) p.1 q.1) (fun r s' => s' = s ∧ r = lexN (k p.1) (k q.1)) (fun _ _ => False) s
  generalize k p.1 = kp at c1 ⊢
  generalize k q.1 = kq at c2 ⊢
  obtain ⟨x, xs⟩ := kp
  obtain ⟨y, ys⟩ := kq
  obtain ⟨a, o, t, b, n, e, ho, hc, hd, hn⟩ := c1
  obtain ⟨a', o', t', b', n', e', ho', hc', hd', hn'⟩ := c2
  rw [e, e']
  refine PySem.W.kat_lt ho hd ho' hd' ?_
  show PySem.W.KatLex prog w A true (decide (2 < 2)) _ [(Value.int x t, Value.int y t'), (Value.ref b, Value.ref b')] 0 s
  refine PySem.W.kat_cons (SeqAt.EqAt.int_int x t y t' prog w _ _ ?_)
  refine PySem.W.kat_go (fun c => ?_) (fun c => ?_)
  · have exy : x = y := by simpa using c
    obtain ⟨its, _, _, key⟩ := id hn
    obtain ⟨its', _, _, key'⟩ := id hn'
    refine PySem.W.kat_yes (PySem.W.kat_cons (wpAny_eqBool_tuple hu key key' ?_))
    refine PySem.W.kat_go (fun d => ?_) (fun d => ?_)
    · have exs : xs = ys := by
        have z := of_decide_eq_true d
        exact (List.map_inj_right (fun u v g => by injection g)).mp z
      refine PySem.W.kat_yes (PySem.W.kat_nil ⟨rfl, ?_⟩)
      unfold lexN
      rw [if_pos exy, exs]
      cases g : lexL ys ys with
      | false => rfl
      | true => exact absurd (lexL_asym _ _ g) (by rw [g]; decide)
    · refine PySem.W.kat_no (PySem.W.kat_one _ _ (lt_nums hn hn' hu ?_))
      refine (show s = s ∧ lexL xs ys = lexN (x, xs) (y, ys) from ⟨rfl, ?_⟩)
      unfold lexN
      rw [if_pos exy]
  · have exy : ¬ x = y := by simpa using c
    refine PySem.W.kat_no (oneLt_int ⟨rfl, ?_⟩)
    unfold lexN
    rw [if_neg exy]
theorem lw_firsts {h : Heap} : ∀ {vs : List Value}, (∀ v ∈ vs, ∃ k, PairLW prog w h v k) → ∃ fs : List Value, PySem.W.KatTups h vs fs ∧ fs.length = vs.length ∧ ∀ f ∈ fs, ∃ x t, f = Value.int x t
  | [], _ => ⟨[], PySem.W.KatTups.nil, rfl, fun f m => absurd m (by simp)⟩
  | v :: vs, x => by
    obtain ⟨fs, g, gl, gi⟩ := lw_firsts fun u m => x u (List.mem_cons_of_mem _ m)
    obtain ⟨k, a, o, t, b, n, rfl, ho, hc, hd, _⟩ := x v List.mem_cons_self
    refine ⟨.int k.1 t :: fs, PySem.W.KatTups.cons ho hc hd rfl g, by rw [List.length_cons, List.length_cons, gl], fun f m => ?_⟩
    rcases List.mem_cons.mp m with rfl | m
    · exact ⟨_, _, rfl⟩
    · exact gi f m
theorem lw_sortable {a : Addr} {vs : List Value} {k : Value → Int × List Int} (hu : A.units < cLine) (h0 : 0 < vs.length) (hp : ∀ v ∈ vs, PairLW prog w s.heap v (k v)) (ha : ∀ o, s.heap.get? a = some o → o.cls ≠ .type "tuple") :
    SrtO.SortableO prog w A s a vs fun u v => lexN (k u) (k v) := by
  intro h' kp
  have hp' : ∀ v ∈ vs, PairLW prog w h' v (k v) := fun v m => (hp v m).keeps fun b o e c => kp b o (fun z => by subst z; exact ha o e c) e
  obtain ⟨fs, g1, g2, g3⟩ := lw_firsts fun v m => ⟨_, hp' v m⟩
  refine ⟨tuples' true, fun Q E hq => ?_, lw_cmp (s := { s with heap := h' }) hu hp'⟩
  refine PySem.W.kat_kind (T := .type "int") g1 (by omega) (fun f m => ?_) (by rfl) ?_
  · obtain ⟨x, t, rfl⟩ := g3 f m
    exact PySem.W.Looks.now
  · have z : (Value.type "int" != Value.type "tuple") = true := by first | decide +kernel | rfl | decide
    rw [z]
    exact hq
end
end LW
namespace L2
open PySem PySem.Spec PyProof.Rows
/-- sorted(xs), xs a list of pairs (a number, a tuple of numbers); k says which -/
def rSortLW (K : PySem.W.Frag) : List V → Hp → VK → Prop := fun vs H Q => ∃ (a : Addr) (xs : List V) (k : V → Int × List Int), vs = [V.ref a] ∧ SqL K H a xs ∧
  (∀ x ∈ xs, ∃ t b, x = V.ref t ∧ H t = some (.tup [.int (k x).1, .ref b]) ∧ H b = some (.tup ((k x).2.map V.int))) ∧
  ∀ ys p, SrtO.Srtd (fun u v => LW.lexN (k u) (k v)) ys → SrtO.Stb (fun u v => LW.lexN (k u) (k v)) ys xs → H p = none → Q (.ref p) (upd H p (.lst ys))
theorem sk_inl : ∀ ns : List Int, (ns.map Sum.inl : List Key).map kV = ns.map V.int
  | [] => rfl
  | n :: ns => by rw [List.map_cons, List.map_cons, List.map_cons, sk_inl ns]; rfl
section
variable {X : Cx}
theorem cr_sortLW (hu : X.A.units + 4 < cLine) : CallR X (.builtin "sorted") (rSortLW X.K) := by
  intro pins s σ H vs us Q I r h
  obtain ⟨a, xs, k, rfl, hs, hx, q⟩ := h
  obtain ⟨its, rv, hl, hz⟩ := I.list hs
  obtain ⟨u, rfl, ru⟩ := vals1 r
  obtain rfl : u = Value.ref a := ru
  obtain ⟨g1, g2⟩ := refs_back rv fun x m => by
    obtain ⟨t, b, e, _⟩ := hx x m
    exact ⟨t, e⟩
  have hp : ∀ v ∈ its, LW.PairLW X.prog X.w s.heap v (k (backV v)) := fun v hv => by
    obtain ⟨t, rfl⟩ := g2 v hv
    obtain ⟨t', b, e, ht, hb⟩ := hx _ (by rw [g1]; exact List.mem_map.mpr ⟨_, hv, rfl⟩)
    cases e
    obtain ⟨_, its2, r2, o, ho, hc, n, hd⟩ := I.hok _ _ ht
    obtain ⟨u1, u2, rfl, ri, rj⟩ := vals2 r2
    obtain ⟨t1, rfl⟩ := ri
    obtain rfl : u2 = Value.ref b := rj
    have kb := key_of (ks := (k (backV (Value.ref t))).2.map Sum.inl) I.hok (by rw [sk_inl]; exact hb)
    obtain ⟨_, its3, r3, ob, hob, hcb, nb, hdb⟩ := I.hok _ _ hb
    exact ⟨t, o, t1, b, n, rfl, ho, hc, hd, its3.toArray, ⟨ob, hob, hcb, nb, hdb⟩, by simpa using Vals.ints r3, kb⟩
  refine SrtO.sorted_ord (LW.lexN_swo fun u => k (backV u)) hl.isList (by rw [← rv.length]; exact hz) (fun h2 h₁ b hb kk => ?_) fun out hs hb => ?_
  · refine LW.lw_sortable (s := { s with heap := h₁ }) (by show X.A.in1.in1.units < cLine; simp only [Around.in1]; omega) (by omega) (fun v m => (hp v m).keeps fun c o e _ => (kk c o e).2) fun o e => ?_
    have z : some o = some (seqObj "list" its.toArray 0) := by rw [← e, ← hb]
    cases z
    intro c
    exact absurd (Value.type.inj c) (by decide)
  · have h3 : ∀ u ∈ out, ∃ a, u = Value.ref a := fun u m => g2 u (hb.perm.mem_iff.mp m)
    obtain ⟨n, hn⟩ := PyProof.Rows.sortedAll_at s.heap its out.toArray
    have st : SrtO.Stb (fun u v => LW.lexN (k u) (k v)) (out.map backV) xs := by
      rw [g1]
      exact SrtO.Stb.map (LW.lexN_swo k) backV hb
    have fr := I.hok.fresh (Nat.le_succ s.heap.objs.size)
    refine ⟨.ref (s.heap.objs.size + 1), upd H (s.heap.objs.size + 1) (.lst (out.map backV)), I.laid (t' := s.toks) (fun _ _ => PyProof.Rows.sortedAll_old) (Nat.le_succ _) ⟨by rw [st.len]; exact hz, out, n, vals_back h3, hn⟩, rfl, q _ _ (SrtO.srtd_map hs) st fr⟩
end
end L2

set_option Elab.async false
set_option linter.all false
set_option maxRecDepth 100000
set_option maxHeartbeats 4000000
/-! dicts whose keys are tuples: d.items() unpacked, dict(d), a dict display by a comprehension -/
namespace L2
open PySem PySem.Spec PyProof.Rows
theorem kt_keys {H : Hp} {kvs : List (List Key × V)} {xs : List (List Key × Addr × Value)} (r : KT H kvs xs) : kvs.map (·.1) = xs.map (·.1) := by
  unfold KT at r
  induction r with
  | nil => rfl
  | cons g _ ih => rw [List.map_cons, List.map_cons, ih, g.1]
section
variable {X : Cx} {pins : List (Addr × Obj)} {σ : St} {H : Hp} {s : Shared} {d : Addr} {o : Obj}
/-- a locked dict with tuple keys: its table, its keys apart -/
theorem frzT_all {kvs : List (List Key × V)} (I : Inv X pins σ H s) (h : H d = some (.frz o (.dT kvs))) : (d == sysModules) = false ∧ s.heap.get? d = some o ∧ (kvs.map (·.1)).Nodup ∧
    ∃ (es : Array DictEntry) (ep : Nat), o.data = .dict es ep ∧ es.size = kvs.length ∧ DT.Raw s.heap d es ep ∧
      ∀ (i : Nat) (hi : i < es.size), ∃ (k : List Key) (v : V) (q : Addr), kvs[i]? = some (k, v) ∧ es[i].key = .ref q ∧ H q = some (.tup (k.map kV)) ∧ RelV v es[i].val := by
  obtain ⟨hd, z, hs, xs, pr, ob, es, ep, ho, hx, hdt, he, nd⟩ := I.hok d _ h
  rw [hd] at ho
  cases ho
  have l1 : es.size = xs.length := size_of_entries he
  have l2 : kvs.length = xs.length := Paired.length pr
  refine ⟨hs, hd, by rw [kt_keys pr]; exact nd, es, ep, hdt, by omega, ⟨_, hd, hx, hdt⟩, fun i hi => ?_⟩
  have e1 : kvs[i]? = some kvs[i] := List.getElem?_eq_getElem (by omega)
  obtain ⟨b, hb, g1, g2, g3⟩ := paired_get pr e1
  have q := entry_at he i
  rw [hb, Array.getElem?_eq_getElem hi] at q
  have q' : es[i] = entryOfKey (tupleKind (mixKind X.prog X.w)) b := Option.some.inj q
  refine ⟨kvs[i].1, kvs[i].2, b.2.1, e1, by rw [q'] <;> rfl, g2, by rw [q'] <;> exact g3⟩
end
/-- the pairs of the locked dict at d, each a new tuple -/
def ItsT (d : Addr) (o : Obj) (kvs : List (List Key × V)) : It :=
  ⟨fun i H => H d = some (.frz o (.dT kvs)) ∧ i < kvs.length,
    fun i H x H' => ∃ (T : Addr) (k : List Key) (v : V) (q : Addr), kvs[i]? = some (k, v) ∧ x = .ref T ∧ H q = some (.tup (k.map kV)) ∧ H T = none ∧ H' = upd H T (.tup [.ref q, v]),
    fun i H => H d = some (.frz o (.dT kvs)) ∧ kvs.length ≤ i⟩
section
variable {P : Program} {w : World} {K : PySem.W.Frag} {d : Addr} {o : Obj} {es : Array DictEntry} {ep : Nat}
theorem turn_itsT {kvs : List (List Key × V)} {elts : List Expr} {kk : Nat} {tpos : Pos} (it : Addr) (hod : o.data = .dict es ep) (hsz : es.size = kvs.length) :
    Turn P w K (.Tuple elts kk tpos) (ItsT d o kvs) [it] it (fun i h => ∃ ok ov, IsItemIter h it d i es.size ep ok ov) where
  mem := by simp
  obj := fun i h st b hb => by
    obtain rfl : b = it := by simpa using hb
    obtain ⟨ok, ov, e⟩ := st
    exact ⟨_, e, fun v z => nomatch z⟩
  keep := fun i h h' st kp => let ⟨ok, ov, e⟩ := st; ⟨ok, ov, kp it (by simp) _ e⟩
  item := by
    intro X eP ew eK hc i pins s σ H E I hf st hg
    subst eP ew eK
    obtain ⟨hd, hi⟩ := hg
    obtain ⟨hs, hgd, hnd, es2, ep2, hdt, hsz2, raw, ent⟩ := frzT_all I hd
    obtain ⟨e1, e2⟩ := dict_ep hod hdt
    subst e1 e2
    obtain ⟨ok, ov, he⟩ := st
    obtain ⟨k, v, q, hkv, ek, hq, rv⟩ := ent i (by omega)
    have low : it < s.heap.objs.size := Heap.lt_size he
    refine DT.nextI he raw (by omega) fun h1 ho hT hz hk => ?_
    refine ⟨_, rfl, wpAny_letOwnedTupleGo_items (s := { s with heap := h1 }) ho fun h2 ho2 sb => ?_⟩
    have hT2 := (sb.2 _ (Nat.ne_of_gt low)).trans hT
    have okT : ObjOk X.prog X.w (upd H s.heap.objs.size (.tup [.ref q, v])) h2 s.heap.objs.size (.tup [.ref q, v]) :=
      ⟨by show 2 ≤ sizeLine; decide, _, .cons (show RelV (.ref q) _ from ek) (.cons rv .nil), ⟨_, hT2, rfl, _, rfl⟩⟩
    have I1 : Inv X pins σ (upd H s.heap.objs.size (.tup [.ref q, v])) { s with heap := h2 } :=
      I.turnedNew (t' := s.toks) (ch := [it]) (fun b ob nb e => (sb.2 b (by simpa using nb)).trans (hk b ob (by simpa using nb) e)) hf (Nat.le_refl _) okT
    refine ⟨.ref s.heap.objs.size, _, I1, rfl, ⟨_, k, v, q, hkv, rfl, hq, I.hok.fresh (Nat.le_refl _), rfl⟩, ⟨_, _, ho2⟩, fun b hb => ?_⟩
    obtain rfl : b = it := by simpa using hb
    rw [upd_ne (Nat.ne_of_lt low)]
    exact (hf b (by simp)).1
  done := by
    intro X eP ew eK hc i pins s σ H E I hf st hg
    subst eP ew eK
    obtain ⟨hd, hi⟩ := hg
    obtain ⟨f0, f1, f2, f3, f4, f5⟩ := hf it (by simp)
    obtain ⟨hs, hgd, hnd, es2, ep2, hdt, hsz2, raw, ent⟩ := frzT_all I hd
    obtain ⟨e1, e2⟩ := dict_ep hod hdt
    subst e1 e2
    obtain ⟨ok, ov, he⟩ := st
    exact DT.endI (I.ok.hd hc) he raw (by omega) fun h1 eb => ⟨rfl, I.turned (t' := s.toks) (fun b ob nb e => eb b ob nb e) f0 f1 f3 f4 f5⟩
  self := fun A i s Q E st h => let ⟨_, _, e⟩ := st; PySem.W.kcp_self e h
end
/-- for .. in e.items(), the dict with tuple keys locked -/
def iItsT (td : TE) : TI := fun σ H R => td σ H fun x H1 => ∃ d o kvs, x = .ref d ∧ H1 d = some (.frz o (.dT kvs)) ∧ ((kvs.map (·.1)).Nodup → R (ItsT d o kvs) H1)
theorem pi_itsT {X : Cx} {e : Expr} {td : TE} {apos cpos : Pos} {elts : List Expr} {kk : Nat} {tpos : Pos} (he : PE X e td) (hbase : attributeBase e "items" X.env (eval e X.env) = eval e X.env := by rfl) (hline : (apos.endLine == cpos.line) = true := by rfl) :
    PI X (.Tuple elts kk tpos) (.Call (.Attribute e "items" apos) [] [] cpos) (iItsT td) := by
  refine ⟨fun pins s σ H R I h => wpAny_Call_method (T := "dict") (id := "dict.items") hbase rfl hline F.plainAttrs_dict F.slot_dict_items F.type_dict_items (thn (he.run pins s σ H _ I h) fun u s1 q => ?_)⟩
  obtain ⟨x, H1, I1, rx, d, o, kvs, rfl, hd, q⟩ := q
  obtain rfl : u = Value.ref d := rx
  obtain ⟨hs, hgd, hnd, es, ep, hdt, hsz, raw, ent⟩ := frzT_all I1 hd
  obtain ⟨ob, g1, g2, g3⟩ := id raw
  refine ⟨raw.typeIs, fun a ea => by cases ea; exact ⟨_, g1, g2.2.1⟩, ?_⟩
  have I2 : Inv X pins σ H1 { s1 with heap := s1.heap.push { cls := .type "dict_items", data := .fields #[.ref d] } } := I1.kept (t' := s1.toks) fun b c g => Heap.get?_push_of_some _ g
  have fin : wpAny (model X.prog X.w) X.A (pyIter (.ref s1.heap.objs.size)) (PIE X pins σ (.Tuple elts kk tpos) R) X.xe { s1 with heap := s1.heap.push { cls := .type "dict_items", data := .fields #[.ref d] } } :=
    DT.iterI (d := d) (es := es) (ep := ep) ⟨_, Heap.get?_push_size _ rfl, rfl, rfl⟩ (raw.push _) (pi_one (tk := s1.toks) I2 _ (turn_itsT _ hdt hsz) ⟨.none, .none, Heap.get?_push_size _ rfl⟩ (q hnd))
  exact method_meetsIn F.slot_dict_items F.entry_dict_items rfl (PySem.evalArgs_none ⟨rfl, raw.typeIs, F.args_dict_items_1 _, _, DT.meetsItems hs, ⟨raw, fin⟩⟩)
/-! dict(d) -/
section
variable {prog : Program} {w : World} {κ : Type} [DecidableEq κ] {knd : HeapKind prog w κ} {A : Around} {E : Value → Shared → Prop} {s : Shared}
theorem dictH_of {a : Addr} {m : List (κ × Addr × Value)} {Q : Value → Shared → Prop} (hu : knd.room A.in1.in1) (hs : (a == sysModules) = false) (ha : s.heap.DictOfH knd a m)
    (hap : (∀ x ∈ m, s.TypeIs (.ref x.2.1) "tuple") ∧ (m.map fun x => knd.hash x.1).Nodup) (hz : m.length ≤ sizeLine) (ex : ∀ x ∈ m, knd.is (s.heap.push { cls := .type "dict", data := .dict #[] }) x.1 x.2.1)
    (h : ∀ h', h'.DictOfH knd s.heap.objs.size m → (∀ b o, s.heap.get? b = some o → h'.get? b = some o) → Q (.ref s.heap.objs.size) { s with heap := h' }) : wpAny (model prog w) A (call (.type "dict") [.ref a]) Q E s := by
  refine callType_codes (Q₁ := fun ob t => ob = .ref s.heap.objs.size ∧ t = { s with heap := s.heap.push { cls := .type "dict", data := .dict #[] } }) F.kt_called_dict (F.kt_typeCall_dict_1 _) F.entry_dict_init (kt_code_dict_new _ ⟨rfl, rfl⟩) ?_
  intro ob t e
  obtain ⟨rfl, rfl⟩ := e
  have d0 : (s.heap.push { cls := .type "dict", data := .dict #[] }).DictOfH knd s.heap.objs.size [] := ⟨_, #[], 0, Heap.get?_push_size _ rfl, ⟨rfl, rfl, rfl⟩, rfl, rfl, (by intro x hx; cases hx), List.nodup_nil⟩
  obtain ⟨oa, es, ep, g1, g2, g3, g4, g5, g6⟩ := id ha
  have da : (s.heap.push { cls := .type "dict", data := .dict #[] }).DictOfH knd a m := ⟨oa, es, ep, Heap.get?_push_of_some _ g1, g2, g3, g4, ex, g6⟩
  have apart : s.heap.objs.size ≠ a := Nat.ne_of_gt (Heap.lt_size g1)
  refine ⟨d0.typeIs, F.args_dict_init_2 _ _, ?_⟩
  unfold Builtin.«dict.__init__»
  refine wpAny_bind ?_
  unfold Builtin.Dict.selfAndRest
  refine wpAny_bind (wpAny_notOrdered_dict d0.typeIs ?_)
  show wpAny _ _ (pure (s.heap.objs.size, [Value.ref a])) _ _ _
  refine wpAny_pure ?_
  show wpAny _ _ (Builtin.Dict.updateFrom "dict.__init__" s.heap.objs.size (.ref a) [] .none) _ _ _
  refine updateFrom_dictH (w := w) .none hu apart hs d0 da (.inr ⟨fun x hx => (hap.1 x hx).elim fun o q => ⟨o, Heap.get?_push_of_some _ q.1, q.2⟩, hap.2⟩) (by simpa using hz) fun h' e1 e2 sb => ?_
  rw [storedAllH_nil_of_nodup _ g6] at e1
  exact ⟨rfl, h h' e1 fun b o q => (sb.2 b (Nat.ne_of_lt (Heap.lt_size q))).trans (Heap.get?_push_of_some _ q)⟩
end
/-- the hash of a tuple of whole numbers -/
def hashT (ns : List Int) : Int := reduceHash (Builtin.Tuple.tupleHashOf (ns.map hashInt))
theorem hashT_is {P : Program} {w : World} (ns : List Int) : (tupleKind (mixKind P w)).hash (ns.map Sum.inl) = hashT ns := by
  show reduceHash (Builtin.Tuple.tupleHashOf ((ns.map Sum.inl).map (mixKind P w).hash)) = hashT ns
  rw [List.map_map] <;> rfl
section
variable {X : Cx}
/-- dict(d), keys tuples of whole numbers that hash apart -/
def rDictT : List V → Hp → VK → Prop := fun xs H Q => ∃ (a : Addr) (kvs : List (List Key × V)) (ns : List (List Int)), xs = [.ref a] ∧ H a = some (.dT kvs) ∧ kvs.map (·.1) = ns.map (fun n => n.map Sum.inl) ∧ (ns.map hashT).Nodup ∧ ∀ p, H p = none → Q (.ref p) (upd H p (.dT kvs))
theorem call_dictT (hu : X.A.units + 2 < cLine) : CallR X (.type "dict") rDictT := by
  intro pins s σ H xs us Q I r q
  obtain ⟨a, kvs, ns, rfl, hd, hk, hn, q⟩ := q
  obtain ⟨u, rfl, rx⟩ := vals1 r
  obtain rfl : u = Value.ref a := rx
  obtain ⟨z, lo, xs, rel, dd⟩ := dt_of I.hok hd
  have hx : xs.length ≤ sizeLine := by rw [← Paired.length rel]; exact z
  have keyed : ∀ x ∈ xs, H x.2.1 = some (.tup (x.1.map kV)) := fun x m => by
    obtain ⟨j, hj, rfl⟩ := List.getElem_of_mem m
    obtain ⟨y, hy, e1, e2, _⟩ := DX.pget rel (List.getElem?_eq_getElem hj)
    rw [← e1]
    exact e2
  refine dictH_of hu lo dd ⟨fun x m => ?_, ?_⟩ hx (fun x m => ?_) fun h' d' kp => ?_
  · obtain ⟨o, its, n, g1, g2, _⟩ := key_of I.hok (keyed x m)
    exact ⟨o, g1, g2⟩
  · have e : xs.map (fun x => (tupleKind (mixKind X.prog X.w)).hash x.1) = ns.map hashT := by
      have e1 : xs.map (fun x => (tupleKind (mixKind X.prog X.w)).hash x.1) = (xs.map (·.1)).map (tupleKind (mixKind X.prog X.w)).hash := by rw [List.map_map] <;> rfl
      rw [e1, ← kt_keys rel, hk, List.map_map]
      exact List.map_congr_left fun n _ => hashT_is n
    rw [e]
    exact hn
  · obtain ⟨o, its, n, g1, g2⟩ := key_of I.hok (keyed x m)
    exact ⟨o, its, n, Heap.get?_push_of_some _ g1, g2⟩
  · have hm : (s.heap.objs.size == sysModules) = false := beq_eq_false_iff_ne.mpr (Nat.ne_of_gt I.big)
    have fr := I.hok.fresh (Nat.le_refl s.heap.objs.size)
    obtain ⟨o, es, ep, g1, g2, g3, g4, _, g6⟩ := d'
    refine ⟨.ref s.heap.objs.size, upd H s.heap.objs.size (.dT kvs), I.laid (t' := s.toks) kp (Nat.le_refl _)
      (show ObjOk X.prog X.w _ _ _ (.dT kvs) from ⟨z, hm, xs, rel.keeps fun b ys e => by rw [upd_ne (ne_of_none e fr)]; exact e, o, es, ep, g1, g2, g3, g4, g6⟩), rfl, q _ fr⟩
end
end L2

set_option Elab.async false
set_option linter.all false
set_option maxRecDepth 100000
set_option maxHeartbeats 4000000
/-! {a: b for .. in ..}, the keys tuples -/
namespace L2
open PySem PySem.Spec PyProof.Rows
theorem put_dT {X : Cx} {pins : List (Addr × Obj)} {σ : St} {H : Hp} {s : Shared} {E : Value → Shared → Prop} {D b : Addr} {m : List (List Key × V)} {k : List Key} {v : V} {u r : Value} {Q : Unit → Shared → Prop} (hu : X.A.units + 1 < cLine) (I : Inv X pins σ H s)
    (hD : H D = some (.dT m)) (hb : H b = some (.tup (k.map kV))) (hm : m.length < sizeLine) (ru : RelV (.ref b) u) (rr : RelV v r) (h : ∀ s', Inv X pins σ (upd H D (.dT (putK m k v))) s' → Q () s') : wpAny (model X.prog X.w) X.A (dictSet D u r) Q E s := by
  obtain rfl : u = Value.ref b := ru
  obtain ⟨z, lo, ys, rel, dd⟩ := dt_of I.hok hD
  have zy : ys.length ≤ sizeLine := (Paired.length rel) ▸ z
  have zl : (putK m k v).length ≤ sizeLine := Nat.le_trans (length_putK m k v) hm
  refine wpAny_dictSet_heap (hsz := zy) (show X.A.units < cLine by omega) (key_of I.hok hb) dd fun h1 d1 sb => h _ ?_
  obtain ⟨o, es, ep, g1, g2, g3, g4, _, g5⟩ := d1
  refine d_write I (by rw [hD]; exact True.intro) sb ⟨o, g1⟩ ⟨zl, lo, _, (rel.put k hb rr).keeps fun c xs e => ?_, o, es, ep, g1, g2, g3, g4, g5⟩
  rw [upd_ne (ne_of e hD (fun q => nomatch q))]
  exact e
def tDcT (wi : TI) (g : TG) (tk tv : TE) (vs : List Nat) : TE := fun σ H Q => wi σ H fun J H1 => ∀ D, H1 D = none → ∃ W : Nat → Nat → Hp → Prop, (∃ m, W 0 m (upd H1 D (.dT []))) ∧ ∀ i m H, W i m H →
  (J.stop i H ∧ Q (.ref D) H) ∨ (J.go i H ∧ ∃ Nx : Hp → Prop, (∀ H', Nx H' → ∃ m', m' < m ∧ W (i + 1) m' H') ∧ ∀ x H', J.yld i H x H' → g x (wipe σ vs) H' fun σ2 H2 => wipe σ2 vs = wipe σ vs ∧
    tk σ2 H2 fun y H4 => tv σ2 H4 fun z H5 => ∃ kvs k b, y = .ref b ∧ H5 b = some (.tup (k.map kV)) ∧ H5 D = some (.dT kvs) ∧ kvs.length < sizeLine ∧ Nx (upd H5 D (.dT (putK kvs k z))))
section
variable {X : Cx}
theorem pe_dcT {kx vx tg iter : Expr} {scope : Scope} {own : List (Str × Nat)} {pos : Pos} {wi : TI} {g : TG} {tk tv : TE} (hu : X.A.units + 1 < cLine) (hc : X.calm = true) (hN : X.N.Nodup) (src : PI X tg iter wi) (ok : BlkOk X.N X.env.scope scope own)
    (pg : ∀ (s : Shared) (H : Hp) (C : Addr) (cl : List (Str × Addr)) (fp : List Addr), PG (X.blk s H scope (compEnvC scope cl C X.env) fp) tg g)
    (pk : ∀ (s : Shared) (H : Hp) (C : Addr) (cl : List (Str × Addr)) (fp : List Addr), PE (X.blk s H scope (compEnvC scope cl C X.env) fp) kx tk)
    (pv : ∀ (s : Shared) (H : Hp) (C : Addr) (cl : List (Str × Addr)) (fp : List Addr), PE (X.blk s H scope (compEnvC scope cl C X.env) fp) vx tv) (fold : ∀ x, foldedSetIterable iter X.env x = pure x := by intro _; rfl) :
    PE X (.DictComp kx vx [⟨tg, iter, [], 0⟩] scope pos) (tDcT wi g tk tv (own.map (·.2))) := by
  refine ⟨fun pins s σ H Q I h => ?_⟩
  rw [arm_eval_DictComp]
  have back : ∀ D C t m H', Inv X pins σ H' t → Q (.ref D) H' → t.heap.Ns C m → FpOk X pins H' C → compPost (model X.prog X.w) X.A X.xe none (EP X pins σ Q) (.ref D) C (.ok .next) t := by
    intro D C t m H' I' q hn fp
    obtain ⟨f0, f1, f2, f3, f4, f5⟩ := fp
    exact ⟨m, hn, fun h'' sb => ⟨.ref D, H', I'.turned (t' := t.toks) (fun b o nb e => (sb.2 b nb).trans e) f0 f1 f3 f4 f5, rfl, q⟩⟩
  have cells : ∀ y ∈ scope.names, y.2 = .free → ∃ c, X.env.cells.lookup y.1 = some c := fun y m e =>
    (ok.free y m e).elim (fun z => I.ok.has _ (.inl z)) fun z => I.ok.has _ (.inr z)
  refine wpAny_comprehension_free (use := none) rfl fold (closure_ok cells) ok.kind (fun y m e => by rw [ok.uniq y m, e]) (thn (src.run pins s σ H _ I h) fun xv s1 g1 => thn g1 fun iv s2 g2 => ?_)
  obtain ⟨it, fp, tn, J, Hs, rfl, Is, T, st, ff, q⟩ := g2
  refine wpAny_newObj_type (newEnv_comp ?_)
  have dfree : Hs s2.heap.objs.size = none := Is.hok.fresh (Nat.le_refl _)
  obtain ⟨W, ⟨w, w0⟩, turn⟩ := q _ dfree
  -- the dict is laid
  have kp : ∀ b o, s2.heap.get? b = some o → (s2.heap.push { cls := .type "dict", data := .dict #[] }).get? b = some o := fun b o e => Heap.get?_push_of_some _ e
  have Id : Inv X pins σ (upd Hs s2.heap.objs.size (.dT [])) { s2 with heap := s2.heap.push { cls := .type "dict", data := .dict #[] } } := Is.laid (t' := s2.toks) kp (Nat.le_refl _) (dt_empty s2.heap Is.big)
  have fd : ∀ b ∈ fp, FpOk X pins (upd Hs s2.heap.objs.size (.dT [])) b ∧ b < (s2.heap.push { cls := .type "dict", data := .dict #[] }).objs.size := fun b m => by
    obtain ⟨o, e, _⟩ := T.obj _ _ st b m
    have lt := Heap.lt_size e
    exact ⟨⟨by rw [upd_ne (Nat.ne_of_lt lt)]; exact (ff b m).1, (ff b m).2⟩, by rw [Heap.size_push]; exact Nat.lt_succ_of_lt lt⟩
  have td := T.keep _ _ _ st fun b _ o e => kp b o e
  generalize ed : ({ s2 with heap := s2.heap.push { cls := .type "dict", data := .dict #[] } } : Shared) = sd at Id fd td
  have hsd : s2.heap.push { cls := .type "dict", data := .dict #[] } = sd.heap := by rw [← ed]
  rw [hsd] at fd td
  generalize s2.heap.objs.size = D at *
  generalize eH : upd Hs D (.dT []) = Hd at *
  -- the block
  have Ib := block_start Id ok hN fd
  have pg := pg sd Hd sd.heap.objs.size (cellsFrom (sd.heap.objs.size + 1) scope.names (cloFrom X.env.cells scope.names [])) fp
  have pk := pk sd Hd sd.heap.objs.size (cellsFrom (sd.heap.objs.size + 1) scope.names (cloFrom X.env.cells scope.names [])) fp
  have pv := pv sd Hd sd.heap.objs.size (cellsFrom (sd.heap.objs.size + 1) scope.names (cloFrom X.env.cells scope.names [])) fp
  have nfp : ∀ b ∈ fp, Hd b = none := fun b m => (fd b m).1.1
  show codeAny _ _ (.compStart _ 0 (.ref it) (.ref D) (compEnvC scope (cellsFrom (sd.heap.objs.size + 1) scope.names (cloFrom X.env.cells scope.names [])) sd.heap.objs.size X.env)) (compPost (model X.prog X.w) X.A X.xe none (EP X pins σ Q) (.ref D) sd.heap.objs.size) _
  have eb : ({ sd with heap := pushCells (sd.heap.push { cls := .type "dict", data := .dict #[] }) scope.names } : Shared) = { sd with heap := pushCells (sd.heap.push { cls := .type "dict", data := .dict #[] }) scope.names } := rfl
  have cl : (compEnvC scope (cellsFrom (sd.heap.objs.size + 1) scope.names (cloFrom X.env.cells scope.names [])) sd.heap.objs.size X.env).locals = sd.heap.objs.size := rfl
  generalize compEnvC scope (cellsFrom (sd.heap.objs.size + 1) scope.names (cloFrom X.env.cells scope.names [])) sd.heap.objs.size X.env = en at Ib pg pk pv cl ⊢
  have tb : tn 0 (pushCells (sd.heap.push { cls := .type "dict", data := .dict #[] }) scope.names) := T.keep _ _ _ td fun b _ o e => pushCells_keeps _ _ _ _ (Heap.get?_push_of_some _ e)
  have good : ∀ {σ' : St} {H' : Hp} {t : Shared}, Inv (X.blk sd Hd scope en fp) [] σ' H' t → (∀ b ∈ fp, H' b = none) → ∀ b ∈ fp, FpOk (X.blk sd Hd scope en fp) [] H' b := fun I' hn b m =>
    ⟨hn b m, (I'.ok.exf b m).1, I'.ok.exfs b m, .inl m, fun x c e => (I'.ok.exf b m).2 x c e, fun p hp => by simp at hp⟩
  have loop : codeAny (model X.prog X.w) X.A (.compLoop (.DictComp kx vx [⟨tg, iter, [], 0⟩] scope pos) 0 (.ref it) (.ref D) en) (compPost (model X.prog X.w) X.A X.xe none (EP X pins σ Q) (.ref D) sd.heap.objs.size) { sd with heap := pushCells (sd.heap.push { cls := .type "dict", data := .dict #[] }) scope.names } := by
    refine compLoop_anyD (fun n t => ∃ i Ht, Inv (X.blk sd Hd scope en fp) [] (wipe σ (own.map (·.2))) Ht t ∧ tn i t.heap ∧ (∀ b ∈ fp, Ht b = none) ∧ W i n Ht) (fun n t g => ?_) w ⟨0, Hd, Ib, tb, nfp, w0⟩
    obtain ⟨i, Ht, It, tt, nt, wt⟩ := g
    rcases turn i n Ht wt with ⟨stop, qq⟩ | ⟨go, Nx, next, step⟩
    · have fin := T.done (X.blk sd Hd scope en fp) rfl rfl rfl hc i [] t _ Ht (fun _ _ => False) It (good It nt) tt stop
      refine thnF fin fun r t2 e => ?_
      obtain ⟨rfl, I2⟩ := e
      have I3 : Inv X pins σ Ht t2 := Id.call' (ch := fp) I2.os I2.base I2.hok I2.bare fun b m => ⟨(fd b m).1.2.2.2.1, (fd b m).1.2.1, (fd b m).1.2.2.2.2.1, (fd b m).1.2.2.2.2.2⟩
      have nC : Ht sd.heap.objs.size = none := by
        have z : Ht en.locals = none := I2.free
        rwa [cl] at z
      obtain ⟨m, hn, _⟩ := I2.loc
      exact back D sd.heap.objs.size t2 m Ht I3 qq (by rw [← cl]; exact hn) (Id.fpOk (Nat.le_refl _) nC)
    · have one := T.item (X.blk sd Hd scope en fp) rfl rfl rfl hc i [] t _ Ht (fun _ _ => False) It (good It nt) tt go
      refine thnF one fun r t2 e => ?_
      obtain ⟨u, rfl, e⟩ := e
      refine thnF e fun _ t3 e => ?_
      obtain ⟨x, H3, I3, r3, y3, tt3, n3⟩ := e
      refine thnF (pg.run _ t3 _ H3 x u _ (I3.pinned (good I3 n3) (T.obj _ _ tt3)) r3 (step x H3 y3)) fun _ t4 e => ?_
      obtain ⟨σ4, H4, I4, w4, q4⟩ := e
      refine wpAny_tests_nil ?_
      refine thnF (pk.run _ t4 σ4 H4 _ I4 q4) fun kv t5 e => ?_
      obtain ⟨yk, H5, I5, r5, q5⟩ := e
      refine thnF (pv.run _ t5 σ4 H5 _ I5 q5) fun vv t6 e => ?_
      obtain ⟨yv, H6, I6, r6, m, k, b, rfl, hb, hD, hz, nx⟩ := e
      refine put_dT (X := X.blk sd Hd scope en fp) hu I6 hD hb hz r5 r6 fun t7 I7 => ?_
      obtain ⟨m', lt, w7⟩ := next _ nx
      have pinned : ∀ c ∈ fp, ∀ o, t3.heap.get? c = some o → t7.heap.get? c = some o ∧ (upd H6 D (.dT (putK m k yv))) c = none := fun c hc2 o e =>
        let z := I7.pin (c, o) (List.mem_append_right _ (List.mem_append_right _ (mem_pinsAt hc2 e)))
        ⟨z.1, z.2.1⟩
      have len : (wipe σ (own.map (·.2))).length = σ4.length := by rw [← w4, wipe_length]
      refine ⟨m', lt, i + 1, _, (I7.unpinned (pins := [])).weak len (fun j v e => ?_), T.keep _ _ _ tt3 fun c hc2 o e => (pinned c hc2 o e).1, fun c hc2 => ?_, w7⟩
      · rw [← w4] at e
        exact (wipe_some e).1
      · obtain ⟨o, e, _⟩ := T.obj _ _ tt3 c hc2
        exact (pinned c hc2 o e).2
  exact codeAny_compStart_dict loop (T.self X.A 0 _ _ _ tb loop)
end
end L2

set_option Elab.async false
set_option linter.all false
set_option maxRecDepth 100000
set_option maxHeartbeats 4000000
/-! ### a small layer of one's own over HandS -/
namespace L2
open PySem PySem.Spec PyProof.Rows
theorem b_len : bootBuiltins "len" = some (.builtin "len") := by decide +kernel
theorem b_abs : bootBuiltins "abs" = some (.builtin "abs") := by decide +kernel
theorem b_ord : bootBuiltins "ord" = some (.builtin "ord") := by decide +kernel
theorem b_isinstance : bootBuiltins "isinstance" = some (.builtin "isinstance") := by decide +kernel
theorem b_int : bootBuiltins "int" = some (.type "int") := by decide +kernel
theorem b_str : bootBuiltins "str" = some (.type "str") := by decide +kernel
theorem b_bool : bootBuiltins "bool" = some (.type "bool") := by decide +kernel
theorem b_tuple : bootBuiltins "tuple" = some (.type "tuple") := by decide +kernel
theorem b_list : bootBuiltins "list" = some (.type "list") := by decide +kernel
/-! defs, methods, classes by their names -/
structure CalX (P : Program) (w : World) (K : PySem.W.Frag) (mg : Str → Option Value) (base : Heap) (CX : CXT) (k : Nat) (x : Str) (sp : Sp) : Prop where
  ex : ∃ (f : Addr) (fd : FuncData) (ps : List Str), FnOk P w K mg base CX k f fd ps sp ∧ mg x = some (.ref f) ∧ PySem.W.keepIn K (.ref f) = true ∧ Binds K fd ps []
structure MetX (P : Program) (w : World) (K : PySem.W.Frag) (mg : Str → Option Value) (base : Heap) (CX : CXT) (k : Nat) (C : Addr) (m : Str) (sp : Sp) : Prop where
  ex : ∃ (f : Addr) (fd : FuncData) (ps : List Str), FnOk P w K mg base CX k f fd ps sp ∧ Cls K C ∧ Meth K C m f ∧ Binds K fd ps []
structure MakX (P : Program) (w : World) (K : PySem.W.Frag) (mg : Str → Option Value) (base : Heap) (CX : CXT) (k : Nat) (x : Str) (C : Addr) (sp : Sp) : Prop where
  ex : ∃ (f : Addr) (fd : FuncData) (ps : List Str), Mk K C f ∧ FnOk P w K mg base CX k f fd ps sp ∧ mg x = some (.ref C) ∧ Binds K fd ps []
section
variable {X : Cx} {CX : CXT} {k j : Nat} {C : Addr} {x m : Str} {sp : Sp} {E : XK} {p pos apos : Pos} {e o : Expr} {es : List Expr} {ta : TE} {t : TA}
theorem pe_u (c : CalX X.prog X.w X.K X.mg X.base CX k x sp) (hr : Room j X.A) (hk : k ≤ j) (hx : Passes CX X E) (ha : PA X (e :: es) t) (hg : Gl X x := by rfl) (hd : (x == ("__debug__" : Str)) = false := by decide)
    (he : starEach (e :: es) X.env = (false, eval e X.env) :: starEach es X.env := by rfl) (hpl : (backTo pos (starEach es X.env)).any (·.1) = false := by rfl) :
    PE X (.Call (.Name x p) (e :: es) [] pos) (tCall sp [] E t) := by
  obtain ⟨f, fd, ps, F, hm, hkp, hb⟩ := c.ex
  exact pe_call F (hr.mono hk) hg hm hkp hb .nil hx ha hd he hpl
theorem pe_u0 (c : CalX X.prog X.w X.K X.mg X.base CX k x sp) (hr : Room j X.A) (hk : k ≤ j) (hx : Passes CX X E) (hg : Gl X x := by rfl) (hd : (x == ("__debug__" : Str)) = false := by decide) :
    PE X (.Call (.Name x p) [] [] pos) (tCall sp [] E tNil) := by
  obtain ⟨f, fd, ps, F, hm, hkp, hb⟩ := c.ex
  exact pe_call0 F (hr.mono hk) hg hm hkp hb .nil hx hd
theorem pe_uS {E : St → XK} (c : CalX X.prog X.w X.K X.mg X.base CX k x sp) (hr : Room j X.A) (hk : k ≤ j) (hx : ∀ σ, PassesAt CX X σ (E σ)) (ha : PA X (e :: es) t) (hg : Gl X x := by rfl) (hd : (x == ("__debug__" : Str)) = false := by decide)
    (he : starEach (e :: es) X.env = (false, eval e X.env) :: starEach es X.env := by rfl) (hpl : (backTo pos (starEach es X.env)).any (·.1) = false := by rfl) :
    PE X (.Call (.Name x p) (e :: es) [] pos) (tCallS sp E t) := by
  obtain ⟨f, fd, ps, F, hm, hkp, hb⟩ := c.ex
  exact pe_callS F (hr.mono hk) hg hm hkp hb hx ha hd he hpl
theorem pe_me {pl : Sem Bool} (c : MetX X.prog X.w X.K X.mg X.base CX k C m sp) (hr : Room j X.A) (hk : k ≤ j) (hx : Passes CX X E) (he : PE X o ta) (ha : PA X (e :: es) t)
    (hc : eval (.Call (.Attribute o m apos) (e :: es) [] pos) X.env = (do
      let ov ← eval o X.env
      standAt apos.atName
      let (f, first) ← holding [ov] (getMethod ov m pl)
      callWith pos f first (backTo pos (starEach (e :: es) X.env)) (backToKw pos (keywordEach [] X.env))) := by rfl)
    (hs : starEach (e :: es) X.env = (false, eval e X.env) :: starEach es X.env := by rfl) (hpl : (backTo pos (starEach es X.env)).any (·.1) = false := by rfl) :
    PE X (.Call (.Attribute o m apos) (e :: es) [] pos) (tMeth C m sp [] E ta t) := by
  obtain ⟨f, fd, ps, F, cl, hm, hb⟩ := c.ex
  exact pe_meth he cl hm F (hr.mono hk) hb .nil hx ha hs hpl hc
theorem pe_me0 {pl : Sem Bool} (c : MetX X.prog X.w X.K X.mg X.base CX k C m sp) (hr : Room j X.A) (hk : k ≤ j) (hx : Passes CX X E) (he : PE X o ta)
    (hc : eval (.Call (.Attribute o m apos) [] [] pos) X.env = (do
      let ov ← eval o X.env
      standAt apos.atName
      let (f, first) ← holding [ov] (getMethod ov m pl)
      callWith pos f first (backTo pos (starEach [] X.env)) (backToKw pos (keywordEach [] X.env))) := by rfl) :
    PE X (.Call (.Attribute o m apos) [] [] pos) (tMeth C m sp [] E ta tNil) := by
  obtain ⟨f, fd, ps, F, cl, hm, hb⟩ := c.ex
  exact pe_meth0 he cl hm F (hr.mono hk) hb .nil hx hc
theorem pe_n (c : MakX X.prog X.w X.K X.mg X.base CX k x C sp) (hr : Room j X.A) (hk : k + 1 ≤ j) (hx : Passes CX X E) (ha : PA X (e :: es) t) (hg : Gl X x := by rfl) (hd : (x == ("__debug__" : Str)) = false := by decide)
    (he : starEach (e :: es) X.env = (false, eval e X.env) :: starEach es X.env := by rfl) (hpl : (backTo pos (starEach es X.env)).any (·.1) = false := by rfl) :
    PE X (.Call (.Name x p) (e :: es) [] pos) (tMake C sp [] E t) := by
  obtain ⟨f, fd, ps, M, F, hm, hb⟩ := c.ex
  exact pe_make M F (hr.mono hk) hg hm hb .nil hx ha hd he hpl
theorem pe_n0 (c : MakX X.prog X.w X.K X.mg X.base CX k x C sp) (hr : Room j X.A) (hk : k + 1 ≤ j) (hx : Passes CX X E) (hg : Gl X x := by rfl) (hd : (x == ("__debug__" : Str)) = false := by decide) :
    PE X (.Call (.Name x p) [] [] pos) (tMake C sp [] E tNil) := by
  obtain ⟨f, fd, ps, M, F, hm, hb⟩ := c.ex
  exact pe_make0 M F (hr.mono hk) hg hm hb .nil hx hd
end
/-! rules -/
section
variable {X : Cx}
def rGetL (K : PySem.W.Frag) : V → V → Hp → VK → Prop := fun x y H Q => ∃ p xs i v, x = .ref p ∧ y = .int i ∧ SqL K H p xs ∧ 0 ≤ i ∧ atI xs i = some v ∧ Q v H
theorem get_list : PGet X (rGetL X.K) := by
  intro pins s σ H o i ov iv Q I ro ri h
  obtain ⟨p, xs, k, v, rfl, rfl, hq, h0, he, q⟩ := h
  cases ro
  obtain ⟨t, rfl⟩ := ri
  obtain ⟨its, r, pl, hz⟩ := I.list hq
  obtain ⟨j, h1, h2, h3, h4, h5⟩ := atI_get he
  obtain ⟨w, ew, rw'⟩ := r.get h2
  have hl := r.length
  have hn := line63
  have hj : k.toNat = j := by
    rw [seqIndex_of h0 h5] at h1
    exact Option.some.inj h1
  exact wpAny_getItem_list pl.isList h0 (by omega) (by rw [hj]; simpa using ew) ⟨v, H, I, rw', q⟩
/-- list(text) -/
def ones (l : List Nat) : List V := l.map fun c => V.str ⟨#[c]⟩
def rListStr : List V → Hp → VK → Prop := fun xs H Q => ∃ x : Str, xs = [.str x] ∧ x.length ≤ sizeLine ∧ ∀ p, H p = none → Q (.ref p) (upd H p (.lst (ones x.cps.toList)))
theorem call_list_str (hc : X.calm = true) : CallR X (.type "list") rListStr := by
  intro pins s σ H xs us Q I r h
  obtain ⟨x, rfl, hz, q⟩ := h
  obtain ⟨u, rfl, rx⟩ := vals1 r
  obtain ⟨t, rfl⟩ := rx
  have hz' : x.cps.size ≤ sizeLine := hz
  refine PySem.call_list_str (I.ok.hd hc) x t (fun h' tk acc' c' hk hS hacc => ?_) hz'
  have hv : Vals (ones x.cps.toList) acc'.toList := by
    have all : ∀ (n : Nat) (l : List Nat) (m : List Value), l.length = n → m.length = n → (∀ (j : Nat) (v : Value), m[j]? = some v → ∃ (c : Nat) (u : Tok), l[j]? = some c ∧ v = Value.str ⟨#[c]⟩ u) → Vals (ones l) m := by
      intro n
      induction n with
      | zero =>
        intro l m h1 h2 _
        obtain rfl := List.length_eq_zero_iff.mp h1
        obtain rfl := List.length_eq_zero_iff.mp h2
        exact .nil
      | succ n ih =>
        intro l m h1 h2 hm
        cases l with
        | nil => simp at h1
        | cons a l =>
          cases m with
          | nil => simp at h2
          | cons b m =>
            obtain ⟨c, u, e1, e2⟩ := hm 0 b rfl
            have e1' : a = c := Option.some.inj e1
            subst e1'
            exact .cons ⟨u, e2⟩ (ih l m (by simpa using h1) (by simpa using h2) fun j v e => hm (j + 1) v e)
    refine all x.cps.size _ _ (by simp) (by simpa using hacc.1) fun j v e => ?_
    obtain ⟨c, u, e1, e2⟩ := hacc.2 j v (by simpa using e)
    exact ⟨c, u, by simpa using e1, e2⟩
  have hl : (ones x.cps.toList).length ≤ sizeLine := by
    unfold ones
    rw [List.length_map]
    simpa using hz'
  exact ⟨.ref s.heap.objs.size, _, I.laid (t' := tk) hk (Nat.le_refl _) (show ObjOk X.prog X.w _ h' _ (.lst (ones x.cps.toList)) from ⟨hl, acc'.toList, c', hv, by rw [Array.toArray_toList]; exact hS⟩), rfl, q _ (I.hok.fresh (Nat.le_refl _))⟩
/-- text * n -/
theorem op_mul_str : OpR X (binaryOp .Mult) (fun x y H Q => ∃ z n, x = .str z ∧ y = .int n ∧ MulOk z n ∧ Q (.str (Txt.mul z n)) H) := by
  intro pins s σ H x y v u Q I rx ry h
  obtain ⟨z, n, rfl, rfl, hok, q⟩ := h
  obtain ⟨t, rfl⟩ := rx
  obtain ⟨t', rfl⟩ := ry
  exact SB.mul hok fun t' k => ⟨.str _, H, I.tok k, ⟨_, rfl⟩, q⟩
end
/-! more -/
section
variable {X : Cx}
/-- a module's whole number -/
theorem pe_gi {x : Str} {n : Int} {pos : Pos} (hm : ∃ t, X.mg x = some (.int n t)) (hg : Gl X x := by rfl) (hd : (x == ("__debug__" : Str)) = false := by decide) : PE X (.Name x pos) (tC (.int n)) := by
  obtain ⟨t, e⟩ := hm
  exact pe_glob hg e ⟨_, rfl⟩ hd
end
/-! with the written part named (within a comprehension) -/
section
variable {X : Cx}
theorem ixK_tup (K : PySem.W.Frag) (h : X.K = K) : IxR X (rIxT K) := by subst h; exact ix_tup
theorem ixK_list (K : PySem.W.Frag) (h : X.K = K) : IxR X (rIxL K) := by subst h; exact ix_list
/-- isinstance(x, a built-in class), the answer by a table -/
def rIsi2 (K : PySem.W.Frag) : List V → Hp → VK → Prop := fun xs H Q => ∃ (x : V) (t c : String) (b : Bool), xs = [x, .ty c] ∧ TyX K H x (.type t) ∧ kitB t c = some b ∧ Q (.bl b) H
theorem call_isi2 : CallR X (.builtin "isinstance") (rIsi2 X.K) := by
  intro pins s σ H xs us Q I r h
  obtain ⟨x, t, c, b, rfl, ty, hk, q⟩ := h
  exact call_isi pins s σ H _ us Q I r ⟨x, .ty c, .type t, .type c, b, rfl, .ty _, ty, kit_ty hk, q⟩
theorem callK_isi (K : PySem.W.Frag) (h : X.K = K) : CallR X (.builtin "isinstance") (rIsi2 K) := by subst h; exact call_isi2
theorem callK_len_seq (K : PySem.W.Frag) (h : X.K = K) : CallR X (.builtin "len") (fun xs H Q => ∃ p ys, xs = [.ref p] ∧ (SqL K H p ys ∨ SqT K H p ys) ∧ Q (.int ys.length) H) := by subst h; exact call_len_seq
theorem callK_len (K : PySem.W.Frag) (h : X.K = K) : CallR X (.builtin "len") (fun xs H Q => ∃ x n, xs = [x] ∧ LenV K x H n ∧ Q (.int n) H) := by subst h; exact call_len
theorem callK_tuple_of (K : PySem.W.Frag) (h : X.K = K) : CallR X (.type "tuple") (fun xs H Q => ∃ p ys, xs = [.ref p] ∧ ((SqL K H p ys ∧ ∀ l, H l = none → Q (.ref l) (upd H l (.tup ys))) ∨ (SqT K H p ys ∧ Q (.ref p) H))) := by subst h; exact call_tuple_of
end
/-- a while by ghosts -/
def whW {α : Type} (W : α → St → Hp → Prop) (μ : α → Nat) : Nat → St → Hp → Prop := fun m σ H => ∃ a, m = μ a ∧ W a σ H
def whN {α : Type} (W : α → St → Hp → Prop) (μ : α → Nat) (a : α) : St → Hp → Prop := fun σ' H' => ∃ a', μ a' < μ a ∧ W a' σ' H'
theorem whN_ok {α : Type} {W : α → St → Hp → Prop} {μ : α → Nat} {a : α} : ∀ σ' H', whN W μ a σ' H' → ∃ m', m' < μ a ∧ whW W μ m' σ' H' := fun _ _ ⟨a', l, w⟩ => ⟨μ a', l, a', rfl, w⟩
theorem wh {α : Type} {c : TT} {tb : TS} {D : Ends} {σ : St} {H : Hp} (W : α → St → Hp → Prop) (μ : α → Nat) (a : α) (h0 : W a σ H)
    (hs : ∀ a σ H, W a σ H → c σ H fun b H1 => if b = true then ∃ N : St → Hp → Prop, (∀ σ' H', N σ' H' → ∃ m', m' < μ a ∧ whW W μ m' σ' H') ∧ tb { D with nx := N, ct := N, bk := D.nx } σ H1 else D.nx σ H1) : tWhile c tb D σ H := by
  refine ⟨whW W μ, ⟨μ a, a, rfl, h0⟩, ?_⟩
  rintro m σ H ⟨a, rfl, w⟩
  exact hs a σ H w
theorem ifT {c A B : Prop} [Decidable c] (h : c) (a : A) : if c then A else B := by
  rw [if_pos h]
  exact a
theorem ifF {c A B : Prop} [Decidable c] (h : ¬ c) (b : B) : if c then A else B := by
  rw [if_neg h]
  exact b
/-- for c in a text -/
theorem for_str {x : Str} {g : TG} {tb : TS} {D : Ends} {σ : St} {H : Hp} (Pv : Nat → St → Hp → Prop) (h0 : Pv 0 σ H)
    (hs : ∀ i c σ H, x.cps[i]? = some c → Pv i σ H → g (.str ⟨#[c]⟩) σ H fun σ2 H2 => tb { D with nx := Pv (i + 1), ct := Pv (i + 1), bk := D.nx } σ2 H2) (hd : ∀ σ H, Pv x.cps.size σ H → D.nx σ H) :
    ∃ W : Nat → Nat → St → Hp → Prop, (∃ m, W 0 m σ H) ∧ ∀ i m σ H, W i m σ H →
      ((Its x).stop i H ∧ D.nx σ H) ∨ ((Its x).go i H ∧ ∃ N : St → Hp → Prop, (∀ σ' H', N σ' H' → ∃ m', m' < m ∧ W (i + 1) m' σ' H') ∧ ∀ v H', (Its x).yld i H v H' → g v σ H' fun σ2 H2 => tb { D with nx := N, ct := N, bk := D.nx } σ2 H2) := by
  refine ⟨fun i m σ H => m = x.cps.size - i ∧ i ≤ x.cps.size ∧ Pv i σ H, ⟨x.cps.size, by simp, Nat.zero_le _, h0⟩, ?_⟩
  rintro i m σ H ⟨rfl, hi, p⟩
  by_cases hlt : i < x.cps.size
  · refine .inr ⟨hlt, Pv (i + 1), fun σ' H' p' => ⟨x.cps.size - (i + 1), by omega, rfl, hlt, p'⟩, fun v H' y => ?_⟩
    obtain ⟨e, c, hc, ev⟩ := y
    subst e ev
    exact hs i c σ _ hc p
  · have e : i = x.cps.size := by omega
    subst e
    exact .inl ⟨Nat.le_refl _, hd σ H p⟩
/-! heaps: all but what stands at d is kept -/
def Keep (d : Addr) (H H' : Hp) : Prop := ∀ b o, b ≠ d → H b = some o → H' b = some o
theorem Keep.refl (d : Addr) (H : Hp) : Keep d H H := fun _ _ _ h => h
theorem Keep.trans {d : Addr} {H H1 H2 : Hp} (a : Keep d H H1) (b : Keep d H1 H2) : Keep d H H2 := fun c o n h => b c o n (a c o n h)
theorem Same.keep {d : Addr} {H H' : Hp} (a : Same H H') : Keep d H H' := fun b o _ h => a b o h
theorem Same.upd {H : Hp} {p : Addr} {o : HO} (h : H p = none) : Same H (upd H p o) := fun b u e => by
  rw [upd_ne (ne_of_none e h)]
  exact e
theorem Keep.upd {d : Addr} {H : Hp} {o : HO} : Keep d H (upd H d o) := fun b u n e => by
  rw [upd_ne n]
  exact e
theorem Keep.new {d p : Addr} {H : Hp} {o : HO} (h : H p = none) : Keep d H (L2.upd H p o) := (Same.upd h).keep
end L2

set_option Elab.async false
set_option linter.all false
set_option maxRecDepth 100000
set_option maxHeartbeats 4000000
/-! {a: b for a, b in d.items()}: a copy -/
namespace L2
open PySem PySem.Spec PyProof.Rows
theorem wipe2 {σ : St} {i j : Nat} {a b : Option V} (h : i ≠ j) : wipe (((wipe σ [i, j]).set i a).set j b) [i, j] = wipe σ [i, j] := by
  simp only [wipe]
  refine List.ext_getElem? fun n => ?_
  simp only [List.getElem?_set, List.length_set]
  by_cases h1 : i = n
  · subst h1
    simp
  · by_cases h2 : j = n
    · subst h2
      simp [h1]
    · simp [h1, h2]
theorem wipe2_i {σ : St} {i j : Nat} {a b : Option V} (h : i ≠ j) (hi : i < σ.length) : (((wipe σ [i, j]).set i a).set j b)[i]? = some a := by
  simp only [wipe, List.getElem?_set, List.length_set]
  simp [Ne.symm h, hi]
theorem wipe2_j {σ : St} {i j : Nat} {a b : Option V} (hj : j < σ.length) : (((wipe σ [i, j]).set i a).set j b)[j]? = some b := by
  simp only [wipe, List.getElem?_set, List.length_set]
  simp [hj]
theorem put_take {κ : Type} [DecidableEq κ] {m : List (κ × V)} {i : Nat} {k : κ} {v : V} (nd : (m.map (·.1)).Nodup) (e : m[i]? = some (k, v)) : putK (m.take i) k v = m.take (i + 1) := by
  obtain ⟨hi, e2⟩ := List.getElem?_eq_some_iff.mp e
  rw [putK_new, List.take_succ, e]
  · rfl
  · cases g : valV (m.take i) k with
    | none => rfl
    | some z =>
      exfalso
      unfold valV at g
      obtain ⟨p, hp, _⟩ := Option.map_eq_some_iff.mp g
      have hk : p.1 = k := by simpa using List.find?_some hp
      obtain ⟨j, hj, rfl⟩ := List.getElem_of_mem (List.mem_of_find?_eq_some hp)
      rw [List.length_take] at hj
      rw [List.getElem_take] at hk
      have z := (List.pairwise_iff_getElem.mp nd) j i (by rw [List.length_map]; omega) (by rw [List.length_map]; exact hi) (by omega)
      rw [List.getElem_map, List.getElem_map, hk, e2] at z
      exact z rfl
theorem copyT {K : PySem.W.Frag} {σ : St} {H : Hp} {Q : VK} {d : Addr} {m : List (List Key × V)} {td : TE} {i j : Nat} (hd : H d = some (.dT m)) (hz : m.length < sizeLine) (hi : i < σ.length) (hj : j < σ.length) (hij : i ≠ j)
    (ht : ∀ od (R : VK), R (.ref d) (upd H d (.frz od (.dT m))) → td σ (upd H d (.frz od (.dT m))) R) (h : ∀ D H', H D = none → Same H H' → H' D = some (.dT m) → Q (.ref D) H') :
    tLockE (tDcT (iItsT td) (gTup K 2 (gCons (gName i) (gCons (gName j) gNil))) (tVar i) (tVar j) [i, j]) σ H Q := by
  refine ⟨d, .dT m, hd, True.intro, fun od => ht od _ ⟨d, od, m, rfl, upd_same, fun nd D hD => ?_⟩⟩
  have Dd : D ≠ d := fun e => by rw [e, upd_same] at hD; cases hD
  have HD : H D = none := by rwa [upd_ne Dd] at hD
  refine ⟨fun n r Hn => r = m.length - n ∧ n ≤ m.length ∧ Hn D = some (.dT (m.take n)) ∧ Hn d = some (.frz od (.dT m)) ∧ ∀ b o, b ≠ d → H b = some o → Hn b = some o, ⟨m.length, by omega, Nat.zero_le _, ?_, ?_, fun b o nb e => ?_⟩, fun n r Hn w => ?_⟩
  · rw [upd_same]; rfl
  · rw [upd_ne (Ne.symm Dd), upd_same]
  · rw [upd_ne (ne_of_none e HD), upd_ne nb]; exact e
  · obtain ⟨rfl, hn, w1, w2, w3⟩ := w
    by_cases lt : n < m.length
    · refine .inr ⟨⟨w2, lt⟩, fun H' => n + 1 ≤ m.length ∧ H' D = some (.dT (m.take (n + 1))) ∧ H' d = some (.frz od (.dT m)) ∧ ∀ b o, b ≠ d → H b = some o → H' b = some o, fun H' nx => ⟨m.length - (n + 1), by omega, rfl, nx⟩, fun x H' y => ?_⟩
      obtain ⟨T, k, v, q, e, rfl, hq, hT, rfl⟩ := y
      have Tn : ∀ {b o}, Hn b = some o → b ≠ T := fun g e => by rw [e, hT] at g; cases g
      refine ⟨T, [.ref q, v], rfl, SqT.of upd_same, rfl, _, _, rfl, _, _, rfl, rfl, wipe2 hij, _, wipe2_i hij hi, _, wipe2_j hj, m.take n, k, q, rfl, ?_, ?_, by rw [List.length_take]; omega, ?_⟩
      · rw [upd_ne (Tn hq)]; exact hq
      · rw [upd_ne (Tn w1)]; exact w1
      · rw [put_take nd e]
        refine ⟨lt, upd_same, ?_, fun b o nb g => ?_⟩
        · rw [upd_ne (Ne.symm Dd), upd_ne (Tn w2)]; exact w2
        · rw [upd_ne (ne_of_none g HD), upd_ne (Tn (w3 b o nb g))]; exact w3 b o nb g
    · have e : n = m.length := by omega
      subst e
      rw [List.take_length] at w1
      refine .inl ⟨⟨w2, Nat.le_refl _⟩, w2, h D _ HD (fun b o g => ?_) ?_⟩
      · by_cases c : b = d
        · subst c; rw [upd_same, ← g, hd]
        · rw [upd_ne c]; exact w3 b o c g
      · rw [upd_ne Dd]; exact w1
end L2

set_option Elab.async false
set_option linter.all false
set_option maxRecDepth 100000
set_option maxHeartbeats 4000000
/-! enumerate(a tuple); a display of one pair whose key is a tuple -/
namespace L2
open PySem PySem.Spec PyProof.Rows
theorem meets_enumB {v : Value} {o : Obj} {G : Heap → Prop} (B : Begins v o G) :
    Meets (Builtin.«enumerate.__new__» ⟨[.type "enumerate", v], []⟩) (fun _ R s => G s.heap ∧
      R (.ok (.ret (.ref (s.heap.push o).objs.size))) { s with heap := (s.heap.push o).push { cls := .type "enumerate", data := .fields #[.none, .bool false, .ref s.heap.objs.size, rawInt 0, .none, .none] } }) :=
  .of_wp fun prog w A R s h => by
    obtain ⟨hp, g, d, tk, os⟩ := s
    obtain ⟨g0, h⟩ := h
    have sub := sub_enumerate
    have it : ∀ {A2 : Around} {E2 : Value → Shared → Prop} {Q2 : Value → Shared → Prop}, Q2 (.ref hp.objs.size) ⟨hp.push o, g, d, tk, os⟩ → wpAny (model prog w) A2 (pyIter v) Q2 E2 ⟨hp, g, d, tk, os⟩ :=
      fun q => B.iter prog w _ _ ⟨hp, g, d, tk, os⟩ _ g0 q
    wp_walk using it
    refine wpAny_stack_any fun st => wpAny_pure ?_
    split
    · rename_i c _ _ _ _ _
      cases (c == Value.type "enumerate") <;>
      · wp_walk using it
        exact ⟨_, rfl, h⟩
    · wp_walk using it
      exact ⟨_, rfl, h⟩
theorem call_enumB {prog : Program} {w : World} {A : Around} {E : Value → Shared → Prop} {s : Shared} {v : Value} {o : Obj} {G : Heap → Prop} {Q : Value → Shared → Prop} (B : Begins v o G) (g0 : G s.heap)
    (h : ∀ h', IsEnum h' (s.heap.objs.size + 1) s.heap.objs.size 0 .none → h'.get? s.heap.objs.size = some o → (∀ b u, s.heap.get? b = some u → h'.get? b = some u) → Q (.ref (s.heap.objs.size + 1)) { s with heap := h' }) :
    wpAny (model prog w) A (call (.type "enumerate") [v]) Q E s := by
  refine callType_new F.called_enumerate (by decide) (F.typeCall_enumerate_1 _) (F.newCall_enumerate_1 _) (fun obj => F.args_object_init_2 obj _) F.entry_enumerate_new (meets_enumB B) ⟨g0, ?_⟩
  have z : (s.heap.push o).objs.size = s.heap.objs.size + 1 := Heap.size_push ..
  show _ ∧ _
  rw [z]
  have en : IsEnum ((s.heap.push o).push { cls := .type "enumerate", data := .fields #[.none, .bool false, .ref s.heap.objs.size, rawInt 0, .none, .none] }) (s.heap.objs.size + 1) s.heap.objs.size 0 .none := by
    have q := Heap.get?_push_size (s.heap.push o) (o := { cls := .type "enumerate", data := .fields #[.none, .bool false, .ref s.heap.objs.size, rawInt 0, .none, .none] }) rfl
    rwa [z] at q
  exact ⟨⟨_, en, rfl⟩, h _ en (Heap.get?_push_of_some _ (Heap.get?_push_size _ B.free)) fun b u x => Heap.get?_push_of_some _ (Heap.get?_push_of_some _ x)⟩
/-- enumerate over the tuple at a -/
def IteT (K : PySem.W.Frag) (a : Addr) (xs : List V) : It :=
  ⟨fun i H => SqT K H a xs ∧ i < xs.length, fun i H v H' => ∃ T x, v = .ref T ∧ H T = none ∧ H' = upd H T (.tup [.int (i : Nat), x]) ∧ xs[i]? = some x, fun i H => SqT K H a xs ∧ i = xs.length⟩
theorem turn_enumT {P : Program} {w : World} {K : PySem.W.Frag} {elts : List Expr} {kk : Nat} {tpos : Pos} {xs : List V} {its : List Value} (a e it : Addr) (hne : e ≠ it) (hai : a ≠ it) (hae : a ≠ e) (rv : Vals xs its) :
    Turn P w K (.Tuple elts kk tpos) (IteT K a xs) [e, it] e (fun i h => (∃ old, IsEnum h e it ((i : Nat) : Int) old) ∧ h.IsTupleIter it a i) where
  mem := by simp
  obj := fun i h st b hb => by
    obtain ⟨⟨old, he⟩, o, ho, hc, hd⟩ := st
    rcases (by simpa using hb : b = e ∨ b = it) with z | z
    · rw [z]; exact ⟨_, he, fun v q => nomatch q⟩
    · rw [z]; exact ⟨o, ho, fun v q => by rw [hd] at q; cases q⟩
  keep := fun i h h' st k => let ⟨⟨old, he⟩, hi⟩ := st; ⟨⟨old, k e (by simp) _ he⟩, hi.at fun o q => k it (by simp) o q⟩
  item := by
    intro X eP ew eK hc i pins s σ H E I hf st hg
    subst eP ew eK
    obtain ⟨⟨old, he⟩, hit⟩ := st
    obtain ⟨hq, hi⟩ := hg
    obtain ⟨its2, r2, p, hz⟩ := I.tuple hq
    obtain ⟨u, hu, ru⟩ := r2.get (List.getElem?_eq_getElem hi)
    have el : e < s.heap.objs.size := Heap.lt_size he
    have il : it < s.heap.objs.size := by obtain ⟨_, q, _⟩ := hit; exact Heap.lt_size q
    have tl : a < s.heap.objs.size := by obtain ⟨_, q, _⟩ := p; exact Heap.lt_size q
    have hl := r2.length
    refine wpAny_pyNext_enum_itemD (Draws.tuple (A := X.A.in1) (show X.A.in1.handled = none from I.ok.hd hc) it a hai its2.toArray) he ⟨hit, p⟩ (by simp; omega) hne (by simp; exact ⟨hne, Ne.symm hae⟩) fun x h1 tk hx ho st1 hT hsz hk => ?_
    have ex : x = u := by
      have hx' : its2[i]? = some x := by simpa using hx
      rw [hu] at hx'
      exact (Option.some.inj hx').symm
    subst ex
    refine ⟨_, rfl, wpAny_letOwnedTupleGo_enum (s := { s with heap := h1, toks := tk + 1 }) ho fun h2 he2 sb => ?_⟩
    have hT2 := (sb.2 _ (Nat.ne_of_gt el)).trans hT
    have okT : ObjOk X.prog X.w (upd H s.heap.objs.size (.tup [.int (i : Nat), xs[i]])) h2 s.heap.objs.size (.tup [.int (i : Nat), xs[i]]) :=
      ⟨by show 2 ≤ sizeLine; decide, _, .cons ⟨_, rfl⟩ (.cons ru .nil), ⟨_, hT2, rfl, _, rfl⟩⟩
    have I1 : Inv X pins σ (upd H s.heap.objs.size (.tup [.int (i : Nat), xs[i]])) { s with heap := h2, toks := tk + 1 } :=
      I.turnedNew (ch := [e, it]) (fun b ob nb q => (sb.2 b (fun z => nb (by simp [z]))).trans (hk b ob (fun z => nb (by simp [z])) (fun z => nb (by simp [z])) q)) hf (Nat.le_refl _) okT
    refine ⟨.ref s.heap.objs.size, _, I1, rfl, ⟨_, _, rfl, I.hok.fresh (Nat.le_refl _), rfl, List.getElem?_eq_getElem hi⟩, ⟨⟨x, ?_⟩, st1.1.at fun o q => (sb.2 it (Ne.symm hne)).trans q⟩, fun b hb => ?_⟩
    · have e1 : ((i + 1 : Nat) : Int) = (i : Int) + 1 := by omega
      rw [e1]; exact he2
    · have lb : b < s.heap.objs.size := by
        rcases (by simpa using hb : b = e ∨ b = it) with z | z <;> rw [z] <;> assumption
      rw [upd_ne (Nat.ne_of_lt lb)]
      exact (hf b hb).1
  done := by
    intro X eP ew eK hc i pins s σ H E I hf st hg
    subst eP ew eK
    obtain ⟨⟨old, he⟩, hit⟩ := st
    obtain ⟨hq, hi⟩ := hg
    obtain ⟨its2, r2, p, hz⟩ := I.tuple hq
    obtain ⟨g0, g1, g2, g3, g4, g5⟩ := hf it (by simp)
    have hl := r2.length
    have ei : its2.toArray.size = i := by simp; omega
    exact wpAny_pyNext_enum_endD (Draws.tuple (A := X.A.in1) (show X.A.in1.handled = none from I.ok.hd hc) it a hai its2.toArray) he (by rw [ei]; exact ⟨hit, p⟩) fun h1 eb => ⟨rfl, I.turned (t' := s.toks) (fun b ob nb q => eb b ob nb q) g0 g1 g3 g4 g5⟩
  self := fun A i s Q E st h => let ⟨⟨_, he⟩, _⟩ := st; wpAny_pyIter_enum he h
/-- for .. in enumerate(e), e a tuple -/
def iEnumT (K : PySem.W.Frag) (ta : TA) : TI := fun σ H R => ta σ H fun vs H1 => ∃ a xs, vs = [.ref a] ∧ SqT K H1 a xs ∧ R (IteT K a xs) H1
theorem pi_enumT {X : Cx} {e : Expr} {ta : TA} {p pos tpos : Pos} {elts : List Expr} {kk : Nat} (hg : Gl X "enumerate") (hm : X.mg "enumerate" = none) (ha : PA X [e] ta) (hs : starEach [e] X.env = [(false, eval e X.env)] := by rfl) :
    PI X (.Tuple elts kk tpos) (.Call (.Name "enumerate" p) [e] [] pos) (iEnumT X.K ta) := by
  refine ⟨fun pins s σ H R I h => Call_ (ld_blt I hg hm boot_enumerate (PyProof.Rows.callWith_type1 (thn (ha.run pos pins s σ H _ I h) fun us s1 g => ?_) hs rfl))⟩
  obtain ⟨vs, H1, I1, r1, a, xs, rfl, hq, q⟩ := g
  obtain ⟨u, rfl, ru⟩ := vals1 r1
  obtain rfl : u = Value.ref a := ru
  obtain ⟨its, rv, p', hz⟩ := I1.tuple hq
  have la : a < s1.heap.objs.size := by obtain ⟨_, g, _⟩ := p'; exact Heap.lt_size g
  refine call_enumB (begins_tuple a its.toArray) p' fun h1 en it kp => wpAny_pyIter_enum en ?_
  have I2 : Inv X pins σ H1 { s1 with heap := h1 } := I1.kept (t' := s1.toks) kp
  refine ⟨s1.heap.objs.size + 1, [s1.heap.objs.size + 1, s1.heap.objs.size], _, _, H1, rfl, I2, turn_enumT a (s1.heap.objs.size + 1) s1.heap.objs.size (Nat.succ_ne_self _) (Nat.ne_of_lt la) (Nat.ne_of_lt (Nat.lt_succ_of_lt la)) rv, ⟨⟨.none, en⟩, ⟨_, it, rfl, rfl⟩⟩, fun b hb => ?_, q⟩
  have le : s1.heap.objs.size ≤ b := by
    rcases (by simpa using hb : b = s1.heap.objs.size + 1 ∨ b = s1.heap.objs.size) with z | z <;> rw [z] <;> omega
  exact I1.fpOk le (I1.hok.fresh le)
theorem walk_enumT {K : PySem.W.Frag} {a : Addr} {xs : List V} : Walk (IteT K a xs) xs.length (fun H => SqT K H a xs) (YPair (fun i => some (.int (i : Nat))) (fun i => xs[i]?)) :=
  ⟨fun i H hi q => ⟨q, hi⟩, fun H q => ⟨q, rfl⟩, fun i H x H' hi q y => let ⟨T, v, e1, e2, e3, e4⟩ := y; ⟨T, _, v, e1, e2, e3, rfl, e4⟩⟩
/-- {k: v}, k a tuple -/
def tDispT (tk tv : TE) : TE := fun σ H Q => ∀ p, H p = none → tk σ (upd H p (.dT [])) fun x H1 => tv σ H1 fun y H2 => ∃ k b, x = .ref b ∧ H2 b = some (.tup (k.map kV)) ∧ H2 p = some (.dT []) ∧ Q (.ref p) (upd H2 p (.dT [(k, y)]))
theorem pe_dispT {X : Cx} {k v : Expr} {pos : Pos} {tk tv : TE} (hu : X.A.units + 1 < cLine) (hk : PE X k tk) (hv : PE X v tv) : PE X (.Dict [some k] [v] pos) (tDispT tk tv) := by
  refine ⟨fun pins s σ H Q I q => ?_⟩
  have hn := I.hok.fresh (Nat.le_refl s.heap.objs.size)
  have I1 := I.laid (a := s.heap.objs.size) (o := .dT []) (h' := s.heap.push { cls := .type "dict", data := .dict #[] }) (t' := s.toks) (fun _ _ g => Heap.get?_push_of_some _ g) (Nat.le_refl _) (dt_empty s.heap I.big)
  refine wpAny_Dict_any rfl rfl (by simp) (by simp) (pairTrees_cons_walk (thn (hk.run pins _ σ _ _ I1 (q _ hn)) fun u s1 g => ?_))
  obtain ⟨x, H1, I2, rx, g⟩ := g
  refine thn (hv.run pins s1 σ H1 _ I2 g) fun w s2 g => ?_
  obtain ⟨y, H2, I3, ry, ks, b, rfl, hb, hp, g⟩ := g
  refine pairTrees_nil_walk ?_
  unfold storeAll
  rw [List.forIn_cons]
  refine wpAny_bind (wpAny_bind (put_dT (m := []) hu I3 hp hb (by show 0 < sizeLine; decide) rx ry fun s3 I4 => wpAny_pure ?_))
  exact wpAny_pure ⟨.ref s.heap.objs.size, _, I4, rfl, g⟩
end L2

set_option Elab.async false
set_option linter.all false
set_option maxRecDepth 100000
set_option maxHeartbeats 4000000
/-! data of numbers, texts, None and tuples, in the heap -/
namespace Toy
open PySem L2
inductive Da where
  | non | int (i : Int) | str (x : Str) | tup (l : List Da)
mutual
inductive DV (H : Hp) : V → Da → Prop
  | non : DV H .non .non
  | int (i : Int) : DV H (.int i) (.int i)
  | str (x : Str) : DV H (.str x) (.str x)
  | tup {a : Addr} {vs : List V} {l : List Da} : H a = some (.tup vs) → DVs H vs l → DV H (.ref a) (.tup l)
inductive DVs (H : Hp) : List V → List Da → Prop
  | nil : DVs H [] []
  | cons {v : V} {p : Da} {vs : List V} {l : List Da} : DV H v p → DVs H vs l → DVs H (v :: vs) (p :: l)
end
/-- tuples stay -/
def Tups (H H' : Hp) : Prop := ∀ b xs, H b = some (.tup xs) → H' b = some (.tup xs)
theorem Tups.refl {H : Hp} : Tups H H := fun _ _ e => e
theorem Tups.trans {H H' H2 : Hp} (a : Tups H H') (b : Tups H' H2) : Tups H H2 := fun c xs e => b c xs (a c xs e)
theorem same_tp {H H' : Hp} (s : Same H H') : Tups H H' := fun b xs e => s b _ e
theorem tups_new {H : Hp} {p : Addr} {o : HO} (h : H p = none) : Tups H (L2.upd H p o) := same_tp (L2.Same.upd h)
theorem tups_upd {H : Hp} {p : Addr} {o : HO} (h : ∀ xs, H p ≠ some (.tup xs)) : Tups H (L2.upd H p o) := fun b xs e => by
  rw [upd_ne (fun z => h xs (by rw [← z]; exact e))]; exact e
mutual
theorem DV.mono {H H' : Hp} (k : Tups H H') : ∀ {v : V} {p : Da}, DV H v p → DV H' v p
  | _, _, .non => .non
  | _, _, .int i => .int i
  | _, _, .str s => .str s
  | _, _, .tup e h => .tup (k _ _ e) (DVs.mono k h)
theorem DVs.mono {H H' : Hp} (k : Tups H H') : ∀ {vs : List V} {l : List Da}, DVs H vs l → DVs H' vs l
  | _, _, .nil => .nil
  | _, _, .cons a b => .cons (DV.mono k a) (DVs.mono k b)
end
theorem DVs.get {H : Hp} : ∀ {vs : List V} {l : List Da} {i : Nat} {v : V}, DVs H vs l → vs[i]? = some v → ∃ p, l[i]? = some p ∧ DV H v p
  | _, _, i, _, .nil, e => by simp at e
  | _, _, 0, _, .cons a _, e => by simp at e; subst e; exact ⟨_, rfl, a⟩
  | _, _, i + 1, _, .cons _ b, e => by
    obtain ⟨p, e1, e2⟩ := DVs.get b (i := i) (by simpa using e)
    exact ⟨p, by simpa using e1, e2⟩
theorem DVs.at {H : Hp} : ∀ {vs : List V} {l : List Da} {i : Nat} {p : Da}, DVs H vs l → l[i]? = some p → ∃ v, vs[i]? = some v ∧ DV H v p
  | _, _, i, _, .nil, e => by simp at e
  | _, _, 0, _, .cons a _, e => by simp at e; subst e; exact ⟨_, rfl, a⟩
  | _, _, i + 1, _, .cons _ b, e => by
    obtain ⟨p, e1, e2⟩ := DVs.at b (i := i) (by simpa using e)
    exact ⟨p, by simpa using e1, e2⟩
theorem DVs.length {H : Hp} : ∀ {vs : List V} {l : List Da}, DVs H vs l → vs.length = l.length
  | _, _, .nil => rfl
  | _, _, .cons _ b => by simp [DVs.length b]
theorem DVs.append {H : Hp} : ∀ {vs us : List V} {l m : List Da}, DVs H vs l → DVs H us m → DVs H (vs ++ us) (l ++ m)
  | _, _, _, _, .nil, h => h
  | _, _, _, _, .cons a b, h => .cons a (DVs.append b h)
theorem DVs.snoc {H : Hp} {v : V} {p : Da} {vs : List V} {l : List Da} (h : DVs H vs l) (g : DV H v p) : DVs H (vs ++ [v]) (l ++ [p]) := h.append (.cons g .nil)
theorem DVs.take {H : Hp} : ∀ (n : Nat) {vs : List V} {l : List Da}, DVs H vs l → DVs H (vs.take n) (l.take n)
  | 0, _, _, _ => .nil
  | n + 1, _, _, .nil => .nil
  | n + 1, _, _, .cons a b => .cons a (DVs.take n b)
theorem DVs.drop {H : Hp} : ∀ (n : Nat) {vs : List V} {l : List Da}, DVs H vs l → DVs H (vs.drop n) (l.drop n)
  | 0, _, _, h => h
  | n + 1, _, _, .nil => .nil
  | n + 1, _, _, .cons a b => DVs.drop n b
theorem DVs.of_get {H : Hp} : ∀ {vs : List V} {l : List Da}, vs.length = l.length → (∀ (i : Nat) (v : V) (p : Da), vs[i]? = some v → l[i]? = some p → DV H v p) → DVs H vs l
  | [], [], _, _ => .nil
  | [], _ :: _, e, _ => by simp at e
  | _ :: _, [], e, _ => by simp at e
  | v :: vs, p :: l, e, h => .cons (h 0 v p rfl rfl) (DVs.of_get (by simpa using e) fun i v p a b => h (i + 1) v p (by simpa using a) (by simpa using b))
theorem DV.inv {H : Hp} {v : V} {l : List Da} (h : DV H v (.tup l)) : ∃ a vs, v = .ref a ∧ H a = some (.tup vs) ∧ DVs H vs l := by
  cases h with | tup e g => exact ⟨_, _, rfl, e, g⟩
/-- a word -/
def wd (w : List Nat) : Da := .tup (w.map fun c : Nat => Da.int (c : Int))
theorem ints_dvs {H : Hp} : ∀ {vs : List V} {w : List Nat}, DVs H vs (w.map fun c : Nat => Da.int (c : Int)) → vs = w.map fun c : Nat => V.int (c : Int)
  | vs, [], h => by cases h; rfl
  | vs, c :: w, h => by
    cases h with
    | cons a b => cases a; rw [ints_dvs b]; rfl
theorem dvs_ints {H : Hp} : ∀ w : List Nat, DVs H (w.map fun c : Nat => V.int (c : Int)) (w.map fun c : Nat => Da.int (c : Int))
  | [] => .nil
  | c :: w => .cons (.int _) (dvs_ints w)
theorem DV.word {H : Hp} {v : V} {w : List Nat} (h : DV H v (wd w)) : ∃ a, v = .ref a ∧ H a = some (.tup (w.map fun c : Nat => V.int (c : Int))) := by
  obtain ⟨a, vs, rfl, e, g⟩ := h.inv
  rw [ints_dvs g] at e
  exact ⟨a, rfl, e⟩
theorem DV.of_word {H : Hp} {a : Addr} {w : List Nat} (e : H a = some (.tup (w.map fun c : Nat => V.int (c : Int)))) : DV H (.ref a) (wd w) := .tup e (dvs_ints w)
theorem wd_inj {w u : List Nat} (h : wd w = wd u) : w = u := by
  unfold wd at h
  injection h with h
  exact (List.map_inj_right (fun a b e => by injection e with e; omega)).mp h
/-! equality -/
mutual
def Da.py : Da → PyData
  | .non => .none
  | .int i => .int i
  | .str x => .str x
  | .tup l => .tuple (Da.pys l)
def Da.pys : List Da → List PyData
  | [] => []
  | p :: r => p.py :: Da.pys r
end
mutual
def Da.deep : Da → Nat
  | .tup l => Da.deeps l + 1
  | _ => 0
def Da.deeps : List Da → Nat
  | [] => 0
  | p :: r => max p.deep (Da.deeps r)
end
mutual
theorem DV.dp {K : PySem.W.Frag} {H : Hp} : ∀ {v : V} {p : Da}, DV H v p → Dp K H v p.py
  | _, _, .non => .non
  | _, _, .int i => .int i
  | _, _, .str s => .str s
  | _, _, .tup e h => .tup (SqT.of e) (DVs.dp h)
theorem DVs.dp {K : PySem.W.Frag} {H : Hp} : ∀ {vs : List V} {l : List Da}, DVs H vs l → DpAll K H vs (Da.pys l)
  | _, _, .nil => .nil
  | _, _, .cons a b => .cons (DV.dp a) (DVs.dp b)
end
mutual
theorem Da.plain : ∀ p : Da, p.py.plain = true
  | .non => by simp [Da.py, PyData.plain]
  | .int i => by simp [Da.py, PyData.plain]
  | .str x => by simp [Da.py, PyData.plain]
  | .tup l => by simp only [Da.py, PyData.plain]; exact Da.plains l
theorem Da.plains : ∀ l : List Da, PyData.plainAll (Da.pys l) = true
  | [] => by simp [Da.pys, PyData.plainAll]
  | p :: r => by simp only [Da.pys, PyData.plainAll, Bool.and_eq_true]; exact ⟨Da.plain p, Da.plains r⟩
end
mutual
theorem Da.dep : ∀ p : Da, p.py.depth ≤ p.deep
  | .non => by simp [Da.py, PyData.depth]
  | .int i => by simp [Da.py, PyData.depth]
  | .str x => by simp [Da.py, PyData.depth]
  | .tup l => by simp only [Da.py, PyData.depth, Da.deep]; have := Da.deps l; omega
theorem Da.deps : ∀ l : List Da, PyData.depthAll (Da.pys l) ≤ Da.deeps l
  | [] => by simp [Da.pys, PyData.depthAll]
  | p :: r => by simp only [Da.pys, PyData.depthAll, Da.deeps]; have := Da.dep p; have := Da.deps r; omega
end
mutual
theorem Da.eqv : ∀ p q : Da, PyData.eqv p.py q.py = true ↔ p = q
  | .non, q => by cases q <;> simp [Da.py, PyData.eqv]
  | .int i, q => by cases q <;> simp [Da.py, PyData.eqv]
  | .str x, q => by cases q <;> simp [Da.py, PyData.eqv]
  | .tup l, q => by
    cases q with
    | tup m => simp only [Da.py, PyData.eqv, Da.tup.injEq]; exact Da.eqvs l m
    | non => simp [Da.py, PyData.eqv]
    | int i => simp [Da.py, PyData.eqv]
    | str x => simp [Da.py, PyData.eqv]
theorem Da.eqvs : ∀ l m : List Da, PyData.eqvAll (Da.pys l) (Da.pys m) = true ↔ l = m
  | [], m => by cases m <;> simp [Da.pys, PyData.eqvAll]
  | p :: r, m => by
    cases m with
    | nil => simp [Da.pys, PyData.eqvAll]
    | cons q s => simp only [Da.pys, PyData.eqvAll, Bool.and_eq_true, List.cons.injEq]; rw [Da.eqv p q, Da.eqvs r s]
end
theorem pys_any (p : Da) : ∀ l : List Da, ((Da.pys l).any fun y => PyData.eqv y p.py) = true ↔ p ∈ l
  | [] => by simp [Da.pys]
  | q :: r => by
    simp only [Da.pys, List.any_cons, Bool.or_eq_true, List.mem_cons]
    rw [Da.eqv q p, pys_any p r]
    exact ⟨fun h => h.imp Eq.symm id, fun h => h.imp Eq.symm id⟩
end Toy
namespace Toy
open PySem L2 PyProof.Rows PySem.SeqAt
section
variable {X : Cx}
/-- x == y of data -/
def rEqA (K : PySem.W.Frag) : R2 := fun x y H Q => ∃ p q, DV H x p ∧ DV H y q ∧ p.deep ≤ 90 ∧ ∀ b : Bool, (b = true ↔ p = q) → Q (.bl b) H
theorem op_eqA (hu : X.A.units + 100 < cLine) : OpR X (compareOp .Eq) (rEqA X.K) := by
  intro pins s σ H x y v u Q I rx ry h
  obtain ⟨p, q, hp, hq, hd, k⟩ := h
  obtain ⟨as, r1⟩ := Dp.reads I p.py x v hp.dp rx
  obtain ⟨bs, r2⟩ := Dp.reads I q.py y u hq.dp ry
  refine eq_plain r1 r2 p.plain q.plain ?_ ⟨.bl _, H, I, rfl, k _ (Da.eqv p q)⟩
  have := p.dep
  omega
def rNeA (K : PySem.W.Frag) : R2 := fun x y H Q => ∃ p q, DV H x p ∧ DV H y q ∧ p.deep ≤ 90 ∧ ∀ b : Bool, (b = true ↔ p ≠ q) → Q (.bl b) H
theorem op_neA (hu : X.A.units + 100 < cLine) : OpR X (compareOp .NotEq) (rNeA X.K) := by
  intro pins s σ H x y v u Q I rx ry h
  obtain ⟨p, q, hp, hq, hd, k⟩ := h
  obtain ⟨as, r1⟩ := Dp.reads I p.py x v hp.dp rx
  obtain ⟨bs, r2⟩ := Dp.reads I q.py y u hq.dp ry
  refine ne_plain r1 r2 p.plain q.plain ?_ ⟨.bl _, H, I, rfl, k _ ?_⟩
  · have := p.dep
    omega
  · rw [Bool.not_eq_true', Bool.eq_false_iff, ne_eq, ne_eq, Da.eqv p q]
/-- x in y, y a tuple or a list of data -/
def rInA (K : PySem.W.Frag) : R2 := fun x y H Q => ∃ p a xs l, DV H x p ∧ y = .ref a ∧ (H a = some (.tup xs) ∨ H a = some (.lst xs)) ∧ DVs H xs l ∧ p.deep ≤ 90 ∧ ∀ b : Bool, (b = true ↔ p ∈ l) → Q (.bl b) H
theorem op_inA (hu : X.A.units + 100 < cLine) : OpR X (compareOp .In) (rInA X.K) := by
  intro pins s σ H x y v u Q I rx ry h
  obtain ⟨p, a, xs, l, hp, rfl, ha, hl, hd, k⟩ := h
  obtain ⟨as, r1⟩ := Dp.reads I p.py x v hp.dp rx
  have g : X.A.units + 1 + min (PyData.depthAll (Da.pys l)) p.py.depth < cLine := by
    have := p.dep
    omega
  rcases ha with e | e
  · obtain ⟨bs, r2⟩ := Dp.reads I (.tuple (Da.pys l)) (.ref a) u (.tup (SqT.of e) hl.dp) ry
    exact in_tuple_data r2 r1 (Da.plains l) p.plain g ⟨.bl _, H, I, rfl, k _ (pys_any p l)⟩
  · obtain ⟨bs, r2⟩ := Dp.reads I (.list (Da.pys l)) (.ref a) u (.lst (SqL.of e) hl.dp) ry
    exact in_list_data r2 r1 (Da.plains l) p.plain g ⟨.bl _, H, I, rfl, k _ (pys_any p l)⟩
def rNiA (K : PySem.W.Frag) : R2 := fun x y H Q => ∃ p a xs l, DV H x p ∧ y = .ref a ∧ (H a = some (.tup xs) ∨ H a = some (.lst xs)) ∧ DVs H xs l ∧ p.deep ≤ 90 ∧ ∀ b : Bool, (b = true ↔ p ∉ l) → Q (.bl b) H
theorem op_niA (hu : X.A.units + 100 < cLine) : OpR X (compareOp .NotIn) (rNiA X.K) := by
  intro pins s σ H x y v u Q I rx ry h
  obtain ⟨p, a, xs, l, hp, rfl, ha, hl, hd, k⟩ := h
  obtain ⟨as, r1⟩ := Dp.reads I p.py x v hp.dp rx
  have g : X.A.units + 1 + min (PyData.depthAll (Da.pys l)) p.py.depth < cLine := by
    have := p.dep
    omega
  have z : (!(Da.pys l).any fun y => PyData.eqv y p.py) = true ↔ p ∉ l := by
    rw [Bool.not_eq_true', Bool.eq_false_iff, ne_eq, pys_any p l]
  rcases ha with e | e
  · obtain ⟨bs, r2⟩ := Dp.reads I (.tuple (Da.pys l)) (.ref a) u (.tup (SqT.of e) hl.dp) ry
    exact notIn_tuple_data r2 r1 (Da.plains l) p.plain g ⟨.bl _, H, I, rfl, k _ z⟩
  · obtain ⟨bs, r2⟩ := Dp.reads I (.list (Da.pys l)) (.ref a) u (.lst (SqL.of e) hl.dp) ry
    exact notIn_list_data r2 r1 (Da.plains l) p.plain g ⟨.bl _, H, I, rfl, k _ z⟩
end
end Toy

set_option Elab.async false
set_option linter.all false
set_option maxRecDepth 100000
set_option maxHeartbeats 4000000
namespace L2
open PySem PySem.Spec PyProof.Rows
theorem cutV_all {xs : List V} {lo hi : Option Int} (h : HT.sIx xs.length 0 lo = 0 ∧ HT.sIx xs.length xs.length hi = xs.length) : cutV xs lo hi = xs := by
  unfold cutV
  rw [h.1, h.2]
  simp
theorem cutV_to {xs : List V} (n : Nat) : cutV xs none (some (n : Int)) = xs.take n := by
  unfold cutV
  rw [HT.sIx_none, HT.sIx_nat, List.drop_zero, Nat.sub_zero, List.take_eq_take_iff]
  omega
theorem cutV_last {xs : List V} : cutV xs none (some (-1)) = xs.dropLast := by
  unfold cutV HT.sIx
  simp
  rw [List.dropLast_eq_take, List.take_eq_take_iff]
  omega
theorem cutV_from {xs : List V} (n : Nat) : cutV xs (some (n : Int)) none = xs.drop n := by
  unfold cutV
  rw [HT.sIx_none, HT.sIx_nat]
  by_cases h : n ≤ xs.length
  · rw [Nat.min_eq_left h, List.take_of_length_le (by rw [List.length_drop]; omega)]
  · rw [Nat.min_eq_right (by omega), List.drop_of_length_le (Nat.le_refl _), List.drop_of_length_le (by omega)]
    simp
/-- t[lo:hi] of a tuple in the heap -/
def rSlTu : V → Option Int → Option Int → Hp → VK → Prop := fun x lo hi H Q => ∃ a xs, x = .ref a ∧ H a = some (.tup xs) ∧ ∀ p H', Same H H' → H' p = some (.tup (cutV xs lo hi)) → Q (.ref p) H'
theorem sl_tupB {X : Cx} : SlR X rSlTu := by
  intro pins s σ H x v vl vu lo hi sl Q I rx hs pl pu h
  obtain ⟨a, xs, rfl, hx, q⟩ := h
  refine sl_tupA pins s σ H _ v vl vu lo hi sl Q I rx hs pl pu ⟨a, xs, rfl, SqT.of hx, fun w => q a H (Same.refl H) (by rw [cutV_all w]; exact hx), fun _ p hp => q p _ (Same.upd hp) upd_same⟩
/-- t + u of tuples in the heap -/
def rCatB : R2 := fun x y H Q => ∃ a b xs ys, x = .ref a ∧ y = .ref b ∧ H a = some (.tup xs) ∧ H b = some (.tup ys) ∧ xs.length + ys.length ≤ sizeLine ∧ ∀ p H', Same H H' → H' p = some (.tup (xs ++ ys)) → Q (.ref p) H'
theorem op_catB {X : Cx} : OpR X (binaryOp .Add) rCatB := by
  intro pins s σ H x y v u Q I rx ry h
  obtain ⟨a, b, xs, ys, rfl, rfl, ha, hb, hz, q⟩ := h
  refine op_catA pins s σ H _ _ v u Q I rx ry ⟨a, b, xs, ys, rfl, rfl, SqT.of ha, SqT.of hb, hz, fun e => q b H (Same.refl H) (by rw [e]; exact hb), fun _ e => q a H (Same.refl H) (by rw [e, List.append_nil]; exact ha), fun _ _ p hp => q p _ (Same.upd hp) upd_same⟩
end L2

set_option Elab.async false
set_option linter.all false
set_option maxRecDepth 100000
set_option maxHeartbeats 4000000
namespace Toy
open PySem L2
def top (i : Nat) : Stmt := PySem.Challenge.pw_formatory_k81_fewest_rows.main.body.getD i (.Pass ⟨0, 0, 0, 0⟩)
end Toy
set_option Elab.async false
set_option linter.all false
set_option maxRecDepth 100000
set_option maxHeartbeats 4000000
/-! An own exception class over an own class over ValueError, whose __init__ says super().__init__(a text) and stores its one argument in a field: made, raised, its field read. -/
namespace PySem
namespace SupX_L
open PySem.W PySem.Calls PyProof.Rows PySem.HandSPX
abbrev sI : Stmt := L2.inClass (Toy.top 2) 0
abbrev iA : Arguments := L2.defArgs sI
abbrev iB : List Stmt := L2.defBody sI
abbrev iS : Scope := L2.defScope sI
/-- what the written part says of the class at C, its __init__ at fI, the cell of __class__ at cc, the code of __init__ at cda -/
structure SupTxt (P : Program) (K : Frag) (mg : Str → Option Value) (C fI cc cda : Addr) : Prop where
  cls : ∃ nm q N bs bm sn sub ab col dd k0 k1 k2 k3 k5, K.lookup C = some (excClassObj nm q C N bs bm true sn sub ab col dd k0 k1 k2 k3 k5 "ValueError.__new__") ∧ refsVE bm = true ∧ alongIn K "__init__" bm = some (some (.builtin "ValueError.__init__"))
  sa : findIn K (.ref C) "__setattr__" = some (some (.builtin "object.__setattr__"))
  ga : findIn K (.ref C) "__getattribute__" = some (some (.builtin "BaseException.__getattribute__"))
  gg : findIn K (.ref C) "__getattr__" = some none
  noN : findIn K (.ref C) "what" = some none
  iC : findIn K (.ref C) "__init__" = some (some (.ref fI))
  tC : typeIn K (.ref fI) = some (.type "function")
  kC : keepIn K (.ref C) = true
  exC : subIn K (.ref C) (.type "BaseException") = some true
  veC : subIn K (.ref C) (.type "ValueError") = some true
  ccC : mroIn K C (.ref C) = some true
  tyC : typeIn K (.ref C) = some (.type "type")
  hdC : hasDictIn K C = true
  te : exmOne K (.ref C) (.ref C) = some true
  opq : nsIn K cStatics "thirdparty.any" = some none
  sup : mg "super" = none
  top : (P.main.scope.names.lookup ("super" : Str)).isSome = false
  cell : ∃ cl cld csl, K.lookup cc = some ⟨cl, cld, .cell (some (.ref C)), csl⟩
  code : ∃ ccl cdd vs ccs file tf, K.lookup cda = some ⟨ccl, cdd, .fields vs, ccs⟩ ∧ vs[2]? = some (.str file tf) ∧ ((P.main.file : Str) == file) = true
  fn : ∃ (qual : Str) (oc : Value) (od : Option Addr) (kV doc pm : Value) (an : Option Addr) (ct : Value) (osl : Array (Option Value)),
    K.lookup fI = some ⟨oc, od, .func (ksFn "__init__" qual iA iB iS .none kV doc pm an (.ref cda) ct cc), osl⟩ ∧ codeIn K (.ref cda) qual = true
theorem one_size (v : Value) : [v].length ≤ sizeLine := by
  rw [sizeLine_eq]
  exact (by decide : 1 ≤ 16777216)
/-- what __init__ leaves of a fresh exception at x -/
structure InitEnd (h h' : Heap) (x C dx t1 : Addr) (v : Value) : Prop where
  keep : ∀ b o, b ≠ x → h.get? b = some o → h'.get? b = some o
  obj : h'.get? x = some { cls := .ref C, dict := some dx, data := .fields #[.ref t1, .none, .none, .none, .bool false, .none] }
  dbig : h.objs.size ≤ dx
  dne : dx ≠ x
  ns : h'.Ns1 dx (fun y => if y = "what" then some v else none)
/-- a made exception -/
structure OwnMade (h h' : Heap) (e C d : Addr) (v : Value) : Prop where
  keep : ∀ b o, h.get? b = some o → h'.get? b = some o
  new : h.objs.size ≤ e
  obj : ∃ oe vs, h'.get? e = some oe ∧ oe.cls = .ref C ∧ oe.dict = some d ∧ oe.data = .fields vs ∧ vs[1]? = some .none
  dbig : h.objs.size ≤ d
  dne : d ≠ e
  ns : h'.Ns1 d (fun y => if y = "what" then some v else none)
section
variable {prog : Program} {w : World} {A : Around} {E : Value → Shared → Prop} {R : Result → Shared → Prop} {s : Shared} {K : Frag} {mg : Str → Option Value} {C fI cc cda : Addr}
theorem ldC {M : Model} {s : Shared} {env : Env} {m : Str → Option Value} {x : Str} {pos : Pos} {v : Value} {Q : Value → Shared → Prop} {A : Around} {E : Value → Shared → Prop} (hn : s.heap.Ns env.locals m) (hv : m x = some v) (h : Q v s)
    (hk : env.scope.kind = .function := by rfl) (hl : env.kindOf x = some .local := by rfl) (hd : (x == ("__debug__" : Str)) = false := by decide) :
    wpAny M A (eval (.Name x pos) env) Q E s := wpAny_Name (wpAny_loadName_local hk hl hn hv h) hd
theorem bootSuper : bootBuiltins "super" = some (.type "super") := by first | boot_by_name | rfl | kernel_rfl
/-- the bound __init__ of the base, called -/
theorem call_mw {h : Heap} {g : Array GenState} {d : Drawn} {t : Nat} {os : OsState} {u e t0 : Addr} {rest : List Value} {Q : Value → Shared → Prop} {nm q : Str} {N : Addr} {bs bm : List Value} {hdct : Bool} {sn : List Str} {sub : List Value} {ab : Bool} {col : Option Bool} {dd : Option Addr} {k0 k1 k2 k3 k5 : Option Value}
    (hC : h.get? C = some (excClassObj nm q C N bs bm hdct sn sub ab col dd k0 k1 k2 k3 k5 "ValueError.__new__")) (he : h.get? e = some (excO C t0)) (hu : h.get? u = some (kxs_mw "ValueError.__init__" e)) (hrest : rest.length ≤ sizeLine)
    (hq : ∀ h' t1, (∀ b o, b ≠ e → h.get? b = some o → h'.get? b = some o) → h'.get? e = some (excO C t1) → Q .none ⟨h', g, d, t, os⟩) :
    wpAny (model prog w) A (call (.ref u) rest) Q E ⟨h, g, d, t, os⟩ := by
  refine wpAny_call (codeAny_of_tree ?_)
  show wpAny _ A.in1 (callAny (.ref u) ⟨rest, []⟩) _ _ _
  simp only [callAny]
  refine wpAny_bind (wpAny_load hu ?_)
  simp only [kxs_mw, show (Value.type "method-wrapper" == Value.type "method" || Value.type "method-wrapper" == Value.type "builtin_function_or_method" || Value.type "method-wrapper" == Value.type "method-wrapper") = true by decide, if_true]
  refine W.KFB.if_so (by decide) ?_
  refine wpAny_bind (check_bound_init F.excBase_ValueError.toExcCallFacts hC he rfl ?_)
  refine wpAny_bind (wpAny_pure (wpAny_pure ?_))
  refine ⟨plainId_quiet F.excBase_ValueError.init.plain _, codeAny_builtin F.excBase_ValueError.initEntry ?_⟩
  exact exc_init_tree (cls := .ref C) (t0 := t0) (dv := none) (c2 := .none) (c3 := .none) (b4 := .bool false) he hrest fun h' k e' _ => hq h' _ k e'
theorem clsIn_of {nm q : Str} {N : Addr} {bs bm : List Value} {hdct : Bool} {sn : List Str} {sub : List Value} {ab : Bool} {col : Option Bool} {dd : Option Addr} {k0 k1 k2 k3 k5 : Option Value} {newId : String}
    (hC : K.lookup C = some (excClassObj nm q C N bs bm hdct sn sub ab col dd k0 k1 k2 k3 k5 newId)) :
    clsIn K C = some { name := nm, bases := bs, mro := .ref C :: bm, ns := N, qualname := q, hasDict := hdct, slotNames := sn, subclasses := sub, abstract := ab, collection := col, hasDel := false } := by
  unfold clsIn
  rw [hC] <;> rfl
theorem sup_init (T : SupTxt prog K mg C fI cc cda) {x t0 : Addr} {v : Value} (X : K.In s.heap) (hlim : s.heap.NoLimit) (G : s.heap.Ns mainGlobals mg) (B : ∃ mb, s.heap.Ns builtinsNs mb ∧ ∀ x : Str, x ≠ "__name__" → mb x = bootBuiltins x)
    (hx : s.heap.get? x = some (excO C t0)) (hnx : K.lookup x = none) (hroom : A.depth < recursionLimit)
    (hq : ∀ h' tk dx t1, InitEnd s.heap h' x C dx t1 v → R (.ok (.ret .none)) { s with heap := h', toks := tk }) :
    codeAny (model prog w) A (.call (.ref fI) ⟨[.ref x, v], []⟩) R s := by
  obtain ⟨qual, oc, od, kV, doc, pm, an, ct, osl, ho, hcd⟩ := T.fn
  obtain ⟨nm, q, N, bs, bm, sn, sub, ab, col, dd, k0, k1, k2, k3, k5, hC, hbm, hal⟩ := T.cls
  obtain ⟨ccl, cdd, vs, ccs, file, tf, hcode, hvs, hfile⟩ := T.code
  obtain ⟨cl, cld, csl, hcell⟩ := T.cell
  have hcl := clsIn_of hC
  refine ks_codeAny_call_defAt (fd := ksFn "__init__" qual iA iB iS .none kV doc pm an (.ref cda) ct cc) (body := iB) (binds := [("self", .ref x), ("what", v)])
    hroom (X _ _ ho) rfl hlim (codeRec_of X hcd) rfl (BindsTo.of_eq (by first | rfl | with_unfolding_all rfl)) (show ∀ x ∈ iS.names, x.2 ≠ NameKind.cell from by decide +kernel) (locs (show (([("self", Value.ref x), ("what", v)] : List (Str × Value)).all fun y => decide (iS.names.lookup y.1 = some NameKind.local)) = true from by first | rfl | kernel_rfl)) (fun h₁ hns hk => ?_)
  have hn : h₁.Ns s.heap.objs.size (fun y => ([("self", Value.ref x), ("what", v)] : List (Str × Value)).reverse.lookup y) := hns
  have X₁ : K.In h₁ := X.keeps hk
  have hx₁ := hk _ _ hx
  have hz : s.heap.objs.size < h₁.objs.size := hn.lt
  have hxL : s.heap.objs.size ≠ x := Nat.ne_of_gt (Heap.lt_size hx)
  obtain ⟨mb, hB, hbl⟩ := B
  have hC₁ : h₁.get? C = _ := X₁ _ _ hC
  have hxC : x ≠ C := fun z => by rw [z, hC] at hnx; cases hnx
  -- super().__init__(msg)
  refine ks_wpAt_execs_cons ?_
  refine ks_wpAt_Expr_any ?_
  refine ks_wpAt_MethodCall ?_
  refine ks_wpAt_super_base (env := ksEnv qual iS s.heap.objs.size fI (.ref cda) cc) (by rfl) (by rfl) (by decide) rfl (X₁ _ _ ho) rfl rfl rfl (X₁ _ _ hcode) rfl hvs hfile T.top ?_
  refine ks_loadName_global (by rfl) (by rfl) (loadGlobal_builtin (env := ksEnv qual iS s.heap.objs.size fI (.ref cda) cc) (G.keeps hk) T.sup (hB.keeps hk) ((hbl _ (by decide +kernel)).trans bootSuper) ⟨rfl, ?_⟩)
  refine wpAny_loadName_free (by rfl) (by rfl) (by rfl) ⟨_, X₁ _ _ hcell, rfl⟩ ?_
  refine wpAny_loadName_local (v := .ref x) (by rfl) (by rfl) hn (by first | rfl | with_unfolding_all rfl | kernel_rfl) ?_
  refine ks_wpAny_isType_cls hC₁ rfl ⟨rfl, ?_⟩
  refine ks_wpAny_call_super hC₁ rfl hx₁ rfl (fun c e => nomatch e) (looks_mroIn X₁ T.ccC) (fun h₂ hso k₂ => ?_)
  have X₂ : K.In h₂ := X₁.keeps k₂
  have hx₂ := k₂ _ _ hx₁
  have hI : Looks (model prog w) h₂ (isInstance (.ref x) (.type "ValueError")) true :=
    (InstAt.type (od := none) ⟨hx₂, rfl, rfl, trivial⟩).andThen (looks_subIn X₂ T.veC)
  refine kxs_getMethod kxs_ValueError hso (looks_opaque X₂ T.opq) (l₀ := .ref C :: bm) (fun A Q E s k q => wpAny_bind ((looks_clsIn X₂ hcl) A _ E s k (wpAny_pure q))) (PySem.ESX.drop_own C bm) X₂ hal hI hxC (by decide) ?_
  have hz2 : h₁.objs.size < h₂.objs.size := Heap.lt_size hso
  have k₃ : ∀ b o, h₂.get? b = some o → (h₂.push (kxs_mw "ValueError.__init__" x)).get? b = some o := fun b o e => Heap.get?_push_of_some _ e
  have hu : (h₂.push (kxs_mw "ValueError.__init__" x)).get? h₂.objs.size = some (kxs_mw "ValueError.__init__" x) := Heap.get?_push_at rfl rfl
  refine kxs_callWith (i := "ValueError.__init__") (x := x) (by rfl) (evalArgs_plain ?_)
  refine Calls.spliced_cons (Calls.Constant_str (k := 0) (pos := ⟨0, 0, 0, 0⟩) (Calls.spliced_nil ?_))
  refine ⟨hu, ?_⟩
  refine call_mw (k₃ _ _ (k₂ _ _ hC₁)) (k₃ _ _ hx₂) hu (one_size _) (fun h₄ t1 k₄ hx₄ => ?_)
  -- self.what = what
  have k : ∀ b o, b ≠ x → h₁.get? b = some o → h₄.get? b = some o := fun b o hb e => k₄ b o hb (k₃ _ _ (k₂ _ _ e))
  have hn₄ : h₄.Ns s.heap.objs.size (fun y => ([("self", Value.ref x), ("what", v)] : List (Str × Value)).reverse.lookup y) := by
    obtain ⟨o, es, ep, e, r⟩ := hn
    exact ⟨o, es, ep, k _ _ hxL e, r⟩
  have X₄ : K.In h₄ := fun a o e => k a o (fun z => by rw [z, hnx] at e; cases e) (X₁ a o e)
  refine wpAt_of_wpAny ?_
  refine wpAny_execs_cons (plainObj_wpAny_Assign_Attribute ?_)
  refine ldC (v := v) (env := ksEnv qual iS s.heap.objs.size fI (.ref cda) cc) hn₄ (by first | rfl | with_unfolding_all rfl | kernel_rfl) (ldC (v := .ref x) (env := ksEnv qual iS s.heap.objs.size fI (.ref cda) cc) hn₄ (by first | rfl | with_unfolding_all rfl | kernel_rfl) ?_)
  refine set_plain X₄ (ox := excO C t1) (od := none) ⟨hx₄, rfl, rfl, trivial⟩ T.sa ?_
  refine exc_osa X₄ hx₄ hcl (show refsVE (.ref C :: bm) = true from hbm) rfl T.noN (fun h₅ tk₅ dx k₅ dn dne hx₅ hn₅ => ?_)
  have zz : s.heap.objs.size ≤ h₄.objs.size := Nat.le_of_lt hn₄.lt
  exact wpAny_execs_nil (hq h₅ tk₅ dx t1 ⟨fun b o hb e => k₅ b o hb (k b o hb (hk b o e)), hx₅, Nat.le_trans zz dn, dne, hn₅⟩)
end
end SupX_L
end PySem
namespace PySem
namespace SupX_L
open PySem.W PySem.Calls PyProof.Rows PySem.HandSPX
section
variable {prog : Program} {w : World} {A : Around} {E : Value → Shared → Prop} {R : Result → Shared → Prop} {s : Shared} {K : Frag} {mg : Str → Option Value} {C fI cc cda : Addr}
theorem sup_made (T : SupTxt prog K mg C fI cc cda) {v : Value} (X : K.In s.heap) (hlim : s.heap.NoLimit) (G : s.heap.Ns mainGlobals mg) (B : ∃ mb, s.heap.Ns builtinsNs mb ∧ ∀ x : Str, x ≠ "__name__" → mb x = bootBuiltins x) (hroom : A.depth + 1 < recursionLimit)
    (hq : ∀ h' tk e d, OwnMade s.heap h' e C d v → R (.ok (.ret (.ref e))) { s with heap := h', toks := tk }) :
    codeAny (model prog w) A (.call (.ref C) ⟨[v], []⟩) R s := by
  obtain ⟨nm, q, N, bs, bm, sn, sub, ab, col, dd, k0, k1, k2, k3, k5, hC, hbm, hal⟩ := T.cls
  obtain ⟨hp, g, dr, tk, os⟩ := s
  have k : ∀ b o, hp.get? b = some o → ((hp.push (kdv_tup [v])).push (excO C hp.objs.size)).get? b = some o := fun b o e => Heap.get?_push_of_some _ (Heap.get?_push_of_some _ e)
  have hget : ((hp.push (kdv_tup [v])).push (excO C hp.objs.size)).get? (hp.objs.size + 1) = some (excO C hp.objs.size) := by heap_get
  have hnx : K.lookup (hp.objs.size + 1) = none := by
    cases e : K.lookup (hp.objs.size + 1) with
    | none => rfl
    | some o =>
      have z : hp.get? (hp.objs.size + 1) = some o := X _ _ e
      exact absurd (Nat.lt_of_succ_lt (Heap.lt_size z)) (Nat.lt_irrefl _)
  refine call_own F.excBase_ValueError (fun X => refsVE_contains X bm hbm) (X _ _ hC) (looks_findIn X T.iC) (fun self => bind_fn X self T.tC) (one_size v) ?_
  refine sup_init (s := ⟨(hp.push (kdv_tup [v])).push (excO C hp.objs.size), g, dr, tk, os⟩) T (X.keeps k) (hlim.keeps k) (G.keeps k) (let ⟨mb, b1, b2⟩ := B; ⟨mb, b1.keeps k, b2⟩) hget hnx ?_ fun h' tk' dx t1 ⟨k', hx, dn, dne, hns⟩ => ?_
  · show A.depth + 1 < recursionLimit
    exact hroom
  · have old : ∀ b o, hp.get? b = some o → h'.get? b = some o := fun b o e => k' b o (Nat.ne_of_lt (Nat.lt_succ_of_lt (Heap.lt_size e))) (k b o e)
    have z : hp.objs.size + 1 + 1 ≤ dx := by
      first
        | (simpa only [Heap.size_push] using dn)
        | exact dn
        | (have q := dn; rw [Heap.size_push, Heap.size_push] at q; exact q)
    exact ⟨rfl, hq h' tk' (hp.objs.size + 1) dx ⟨old, Nat.le_succ _, ⟨_, _, hx, rfl, rfl, rfl, rfl⟩, Nat.le_trans (Nat.le_trans (Nat.le_succ _) (Nat.le_succ _)) z, dne, hns⟩⟩
end
end SupX_L
end PySem
theorem PySem.SupX_L.SupTxt.xf {P : PySem.Program} {K : PySem.W.Frag} {mg : PySem.Str → Option PySem.Value} {C fI cc cda : PySem.Addr} (T : PySem.SupX_L.SupTxt P K mg C fI cc cda) : L2.XfC K C := ⟨T.ga, T.gg, T.exC, T.hdC⟩
namespace L2
namespace Sup_L
open PySem PySem.Spec PyProof.Rows
theorem relO_one {v : V} {v' : Value} (r : RelV v v') (f : Str) : RelO (List.lookup f [(("what" : Str), v)]) (if f = "what" then some v' else none) := by
  by_cases hw : f = "what"
  · subst hw
    rw [if_pos rfl]
    have q : List.lookup ("what" : Str) [(("what" : Str), v)] = some v := by simp [List.lookup]
    rw [q]
    exact r
  · rw [if_neg hw]
    have qw : (f == ("what" : Str)) = false := by simpa using hw
    have q2 : List.lookup f [(("what" : Str), v)] = none := by simp [List.lookup, qw]
    rw [q2]
    trivial
section
variable {X : Cx} {C fI cc cda : Addr}
/-- C(e) -/
def tMk (C : Addr) (ta : TA) : St → Hp → XK → Prop := fun σ H Q => ta σ H fun vs H1 => ∃ v, vs = [v] ∧ ∀ d, H1 d = none → Q (.ref C) (some d) (upd H1 d (.xd [(("what" : Str), v)]))
theorem pmk {a : Expr} {ta : TA} {x : Str} {p pos : Pos} {k : Nat} (T : PySem.SupX_L.SupTxt X.prog X.K X.mg C fI cc cda) (hm : X.mg x = some (.ref C)) (hr : Room k X.A) (ha : PA X [a] ta) (hg : Gl X x := by rfl)
    (hd : (x == ("__debug__" : Str)) = false := by decide)
    (he : starEach (a :: []) X.env = (false, eval a X.env) :: starEach [] X.env := by rfl) (hpl : (backTo pos (starEach [] X.env)).any (·.1) = false := by rfl) :
    PMk X (.Call (.Name x p) [a] [] pos) (tMk C ta) := by
  intro pins s σ H Q I h
  refine wpAny_Call_Name_kw (ld_glob I hg hm ?_ hd)
  refine PySem.W.callWith_K (h₀ := X.base) I.ok.mod.kin T.kC (thn (ha.run pos pins s σ H _ I h) fun us s1 hh => ?_) he hpl
  obtain ⟨vs, H1, I1, r1, v, ev, q1⟩ := hh
  subst ev
  refine ⟨I1.kIn, ?_⟩
  cases r1 with
  | cons rv rn =>
    rename_i v' us'
    cases rn
    show wpAny _ _ (call (.ref C) [v']) _ _ _
    have hlim := I1.nolimit
    have hG := I1.ok.mod.glob.keeps I1.bk
    have hB : ∃ mb, s1.heap.Ns builtinsNs mb ∧ ∀ x : Str, x ≠ "__name__" → mb x = bootBuiltins x := let ⟨mb, b1, b2⟩ := I1.ok.mod.blt; ⟨mb, b1.keeps I1.bk, b2⟩
    obtain ⟨hp, g, dr, tk, os⟩ := s1
    refine wpAny_call (PySem.SupX_L.sup_made T I1.kIn hlim hG hB (by have := hr.dp; omega) fun h' tk' e d M => ?_)
    show MkP X pins σ Q (.ref e) ⟨h', g, dr, tk', os⟩
    obtain ⟨oe, fv, hoe, hc, hd, hdat, h1⟩ := M.obj
    have hns := M.ns
    obtain ⟨G', g1, g2⟩ := restrict h' fun b => decide (b ≠ e)
    have gk : ∀ b, b ≠ e → G'.get? b = h'.get? b := fun b hb => g1 b (decide_eq_true hb)
    have ge : G'.get? e = none := g2 e (by simp)
    have old : ∀ b o, hp.get? b = some o → G'.get? b = some o := fun b o q => (gk b (Nat.ne_of_lt (Nat.lt_of_lt_of_le (Heap.lt_size q) M.new))).trans (M.keep b o q)
    have ob : ObjOk X.prog X.w (upd H1 d (.xd [(("what" : Str), v)])) G' d (.xd [(("what" : Str), v)]) :=
      ⟨_, hns.at (fun o q => (gk d M.dne).trans q), fun f => relO_one rv f⟩
    have J : Inv X pins σ (upd H1 d (.xd [(("what" : Str), v)])) ⟨G', g, dr, tk', os⟩ := I1.laid (t' := tk') old M.dbig ob
    refine ⟨e, oe, fv, ⟨G', g, dr, tk', os⟩, _, .ref C, some d, rfl, J, fun b o q => ?_, ge, hoe, ⟨hc, hd⟩, hdat, h1, ?_, rfl, I1.bare, raises_own T.exC T.tyC, q1 d (I1.hok.fresh M.dbig)⟩
    · by_cases hb : b = e
      · have q' : G'.get? b = some o := q
        rw [hb, ge] at q'; cases q'
      · exact (gk b hb).symm.trans q
    · rw [upd_ne (Ne.symm M.dne)]
      exact I1.hok.fresh M.new
/-- raise C(e) -/
def tRaise (C : Addr) (W : WX) (ta : TA) : TS := fun _ σ H => tMk C ta σ H fun cls d H' => W cls d σ H'
theorem ps_raise {a : Expr} {ta : TA} {W : WX} {x : Str} {p pos pos2 : Pos} {k : Nat} (hc : X.calm = true) (T : PySem.SupX_L.SupTxt X.prog X.K X.mg C fI cc cda) (hm : X.mg x = some (.ref C)) (hr : Room k X.A) (tk : Takes X W) (ha : PA X [a] ta) (hg : Gl X x := by rfl)
    (hd : (x == ("__debug__" : Str)) = false := by decide)
    (he : starEach (a :: []) X.env = (false, eval a X.env) :: starEach [] X.env := by rfl) (hpl : (backTo pos (starEach [] X.env)).any (·.1) = false := by rfl) :
    PS X (.Raise (some (.Call (.Name x p) [a] [] pos)) none pos2) (tRaise C W ta) := L2.ps_raise hc tk (pmk T hm hr ha hg hd he hpl)
end
end Sup_L
end L2
set_option Elab.async false
set_option linter.all false
set_option maxRecDepth 100000
set_option maxHeartbeats 4000000
/-! An own exception class over an own class over ValueError, whose __init__ says super().__init__(a text) and stores its one argument in a field: made, raised, its field read. -/
namespace PySem
namespace SupX_C
open PySem.W PySem.Calls PyProof.Rows PySem.HandSPX
abbrev sI : Stmt := L2.inClass (Toy.top 4) 0
abbrev iA : Arguments := L2.defArgs sI
abbrev iB : List Stmt := L2.defBody sI
abbrev iS : Scope := L2.defScope sI
/-- what the written part says of the class at C, its __init__ at fI, the cell of __class__ at cc, the code of __init__ at cda -/
structure SupTxt (P : Program) (K : Frag) (mg : Str → Option Value) (C fI cc cda : Addr) : Prop where
  cls : ∃ nm q N bs bm sn sub ab col dd k0 k1 k2 k3 k5, K.lookup C = some (excClassObj nm q C N bs bm true sn sub ab col dd k0 k1 k2 k3 k5 "ValueError.__new__") ∧ refsVE bm = true ∧ alongIn K "__init__" bm = some (some (.builtin "ValueError.__init__"))
  sa : findIn K (.ref C) "__setattr__" = some (some (.builtin "object.__setattr__"))
  ga : findIn K (.ref C) "__getattribute__" = some (some (.builtin "BaseException.__getattribute__"))
  gg : findIn K (.ref C) "__getattr__" = some none
  noN : findIn K (.ref C) "sample" = some none
  iC : findIn K (.ref C) "__init__" = some (some (.ref fI))
  tC : typeIn K (.ref fI) = some (.type "function")
  kC : keepIn K (.ref C) = true
  exC : subIn K (.ref C) (.type "BaseException") = some true
  veC : subIn K (.ref C) (.type "ValueError") = some true
  ccC : mroIn K C (.ref C) = some true
  tyC : typeIn K (.ref C) = some (.type "type")
  hdC : hasDictIn K C = true
  te : exmOne K (.ref C) (.ref C) = some true
  opq : nsIn K cStatics "thirdparty.any" = some none
  sup : mg "super" = none
  top : (P.main.scope.names.lookup ("super" : Str)).isSome = false
  cell : ∃ cl cld csl, K.lookup cc = some ⟨cl, cld, .cell (some (.ref C)), csl⟩
  code : ∃ ccl cdd vs ccs file tf, K.lookup cda = some ⟨ccl, cdd, .fields vs, ccs⟩ ∧ vs[2]? = some (.str file tf) ∧ ((P.main.file : Str) == file) = true
  fn : ∃ (qual : Str) (oc : Value) (od : Option Addr) (kV doc pm : Value) (an : Option Addr) (ct : Value) (osl : Array (Option Value)),
    K.lookup fI = some ⟨oc, od, .func (ksFn "__init__" qual iA iB iS .none kV doc pm an (.ref cda) ct cc), osl⟩ ∧ codeIn K (.ref cda) qual = true
theorem one_size (v : Value) : [v].length ≤ sizeLine := by
  rw [sizeLine_eq]
  exact (by decide : 1 ≤ 16777216)
/-- what __init__ leaves of a fresh exception at x -/
structure InitEnd (h h' : Heap) (x C dx t1 : Addr) (v : Value) : Prop where
  keep : ∀ b o, b ≠ x → h.get? b = some o → h'.get? b = some o
  obj : h'.get? x = some { cls := .ref C, dict := some dx, data := .fields #[.ref t1, .none, .none, .none, .bool false, .none] }
  dbig : h.objs.size ≤ dx
  dne : dx ≠ x
  ns : h'.Ns1 dx (fun y => if y = "sample" then some v else none)
/-- a made exception -/
structure OwnMade (h h' : Heap) (e C d : Addr) (v : Value) : Prop where
  keep : ∀ b o, h.get? b = some o → h'.get? b = some o
  new : h.objs.size ≤ e
  obj : ∃ oe vs, h'.get? e = some oe ∧ oe.cls = .ref C ∧ oe.dict = some d ∧ oe.data = .fields vs ∧ vs[1]? = some .none
  dbig : h.objs.size ≤ d
  dne : d ≠ e
  ns : h'.Ns1 d (fun y => if y = "sample" then some v else none)
section
variable {prog : Program} {w : World} {A : Around} {E : Value → Shared → Prop} {R : Result → Shared → Prop} {s : Shared} {K : Frag} {mg : Str → Option Value} {C fI cc cda : Addr}
theorem ldC {M : Model} {s : Shared} {env : Env} {m : Str → Option Value} {x : Str} {pos : Pos} {v : Value} {Q : Value → Shared → Prop} {A : Around} {E : Value → Shared → Prop} (hn : s.heap.Ns env.locals m) (hv : m x = some v) (h : Q v s)
    (hk : env.scope.kind = .function := by rfl) (hl : env.kindOf x = some .local := by rfl) (hd : (x == ("__debug__" : Str)) = false := by decide) :
    wpAny M A (eval (.Name x pos) env) Q E s := wpAny_Name (wpAny_loadName_local hk hl hn hv h) hd
theorem bootSuper : bootBuiltins "super" = some (.type "super") := by first | boot_by_name | rfl | kernel_rfl
/-- the bound __init__ of the base, called -/
theorem call_mw {h : Heap} {g : Array GenState} {d : Drawn} {t : Nat} {os : OsState} {u e t0 : Addr} {rest : List Value} {Q : Value → Shared → Prop} {nm q : Str} {N : Addr} {bs bm : List Value} {hdct : Bool} {sn : List Str} {sub : List Value} {ab : Bool} {col : Option Bool} {dd : Option Addr} {k0 k1 k2 k3 k5 : Option Value}
    (hC : h.get? C = some (excClassObj nm q C N bs bm hdct sn sub ab col dd k0 k1 k2 k3 k5 "ValueError.__new__")) (he : h.get? e = some (excO C t0)) (hu : h.get? u = some (kxs_mw "ValueError.__init__" e)) (hrest : rest.length ≤ sizeLine)
    (hq : ∀ h' t1, (∀ b o, b ≠ e → h.get? b = some o → h'.get? b = some o) → h'.get? e = some (excO C t1) → Q .none ⟨h', g, d, t, os⟩) :
    wpAny (model prog w) A (call (.ref u) rest) Q E ⟨h, g, d, t, os⟩ := by
  refine wpAny_call (codeAny_of_tree ?_)
  show wpAny _ A.in1 (callAny (.ref u) ⟨rest, []⟩) _ _ _
  simp only [callAny]
  refine wpAny_bind (wpAny_load hu ?_)
  simp only [kxs_mw, show (Value.type "method-wrapper" == Value.type "method" || Value.type "method-wrapper" == Value.type "builtin_function_or_method" || Value.type "method-wrapper" == Value.type "method-wrapper") = true by decide, if_true]
  refine W.KFB.if_so (by decide) ?_
  refine wpAny_bind (check_bound_init F.excBase_ValueError.toExcCallFacts hC he rfl ?_)
  refine wpAny_bind (wpAny_pure (wpAny_pure ?_))
  refine ⟨plainId_quiet F.excBase_ValueError.init.plain _, codeAny_builtin F.excBase_ValueError.initEntry ?_⟩
  exact exc_init_tree (cls := .ref C) (t0 := t0) (dv := none) (c2 := .none) (c3 := .none) (b4 := .bool false) he hrest fun h' k e' _ => hq h' _ k e'
theorem clsIn_of {nm q : Str} {N : Addr} {bs bm : List Value} {hdct : Bool} {sn : List Str} {sub : List Value} {ab : Bool} {col : Option Bool} {dd : Option Addr} {k0 k1 k2 k3 k5 : Option Value} {newId : String}
    (hC : K.lookup C = some (excClassObj nm q C N bs bm hdct sn sub ab col dd k0 k1 k2 k3 k5 newId)) :
    clsIn K C = some { name := nm, bases := bs, mro := .ref C :: bm, ns := N, qualname := q, hasDict := hdct, slotNames := sn, subclasses := sub, abstract := ab, collection := col, hasDel := false } := by
  unfold clsIn
  rw [hC] <;> rfl
theorem sup_init (T : SupTxt prog K mg C fI cc cda) {x t0 : Addr} {v : Value} (X : K.In s.heap) (hlim : s.heap.NoLimit) (G : s.heap.Ns mainGlobals mg) (B : ∃ mb, s.heap.Ns builtinsNs mb ∧ ∀ x : Str, x ≠ "__name__" → mb x = bootBuiltins x)
    (hx : s.heap.get? x = some (excO C t0)) (hnx : K.lookup x = none) (hroom : A.depth < recursionLimit)
    (hq : ∀ h' tk dx t1, InitEnd s.heap h' x C dx t1 v → R (.ok (.ret .none)) { s with heap := h', toks := tk }) :
    codeAny (model prog w) A (.call (.ref fI) ⟨[.ref x, v], []⟩) R s := by
  obtain ⟨qual, oc, od, kV, doc, pm, an, ct, osl, ho, hcd⟩ := T.fn
  obtain ⟨nm, q, N, bs, bm, sn, sub, ab, col, dd, k0, k1, k2, k3, k5, hC, hbm, hal⟩ := T.cls
  obtain ⟨ccl, cdd, vs, ccs, file, tf, hcode, hvs, hfile⟩ := T.code
  obtain ⟨cl, cld, csl, hcell⟩ := T.cell
  have hcl := clsIn_of hC
  refine ks_codeAny_call_defAt (fd := ksFn "__init__" qual iA iB iS .none kV doc pm an (.ref cda) ct cc) (body := iB) (binds := [("self", .ref x), ("sample", v)])
    hroom (X _ _ ho) rfl hlim (codeRec_of X hcd) rfl (BindsTo.of_eq (by first | rfl | with_unfolding_all rfl)) (show ∀ x ∈ iS.names, x.2 ≠ NameKind.cell from by decide +kernel) (locs (show (([("self", Value.ref x), ("sample", v)] : List (Str × Value)).all fun y => decide (iS.names.lookup y.1 = some NameKind.local)) = true from by first | rfl | kernel_rfl)) (fun h₁ hns hk => ?_)
  have hn : h₁.Ns s.heap.objs.size (fun y => ([("self", Value.ref x), ("sample", v)] : List (Str × Value)).reverse.lookup y) := hns
  have X₁ : K.In h₁ := X.keeps hk
  have hx₁ := hk _ _ hx
  have hz : s.heap.objs.size < h₁.objs.size := hn.lt
  have hxL : s.heap.objs.size ≠ x := Nat.ne_of_gt (Heap.lt_size hx)
  obtain ⟨mb, hB, hbl⟩ := B
  have hC₁ : h₁.get? C = _ := X₁ _ _ hC
  have hxC : x ≠ C := fun z => by rw [z, hC] at hnx; cases hnx
  -- super().__init__(msg)
  refine ks_wpAt_execs_cons ?_
  refine ks_wpAt_Expr_any ?_
  refine ks_wpAt_MethodCall ?_
  refine ks_wpAt_super_base (env := ksEnv qual iS s.heap.objs.size fI (.ref cda) cc) (by rfl) (by rfl) (by decide) rfl (X₁ _ _ ho) rfl rfl rfl (X₁ _ _ hcode) rfl hvs hfile T.top ?_
  refine ks_loadName_global (by rfl) (by rfl) (loadGlobal_builtin (env := ksEnv qual iS s.heap.objs.size fI (.ref cda) cc) (G.keeps hk) T.sup (hB.keeps hk) ((hbl _ (by decide +kernel)).trans bootSuper) ⟨rfl, ?_⟩)
  refine wpAny_loadName_free (by rfl) (by rfl) (by rfl) ⟨_, X₁ _ _ hcell, rfl⟩ ?_
  refine wpAny_loadName_local (v := .ref x) (by rfl) (by rfl) hn (by first | rfl | with_unfolding_all rfl | kernel_rfl) ?_
  refine ks_wpAny_isType_cls hC₁ rfl ⟨rfl, ?_⟩
  refine ks_wpAny_call_super hC₁ rfl hx₁ rfl (fun c e => nomatch e) (looks_mroIn X₁ T.ccC) (fun h₂ hso k₂ => ?_)
  have X₂ : K.In h₂ := X₁.keeps k₂
  have hx₂ := k₂ _ _ hx₁
  have hI : Looks (model prog w) h₂ (isInstance (.ref x) (.type "ValueError")) true :=
    (InstAt.type (od := none) ⟨hx₂, rfl, rfl, trivial⟩).andThen (looks_subIn X₂ T.veC)
  refine kxs_getMethod kxs_ValueError hso (looks_opaque X₂ T.opq) (l₀ := .ref C :: bm) (fun A Q E s k q => wpAny_bind ((looks_clsIn X₂ hcl) A _ E s k (wpAny_pure q))) (PySem.ESX.drop_own C bm) X₂ hal hI hxC (by decide) ?_
  have hz2 : h₁.objs.size < h₂.objs.size := Heap.lt_size hso
  have k₃ : ∀ b o, h₂.get? b = some o → (h₂.push (kxs_mw "ValueError.__init__" x)).get? b = some o := fun b o e => Heap.get?_push_of_some _ e
  have hu : (h₂.push (kxs_mw "ValueError.__init__" x)).get? h₂.objs.size = some (kxs_mw "ValueError.__init__" x) := Heap.get?_push_at rfl rfl
  refine kxs_callWith (i := "ValueError.__init__") (x := x) (by rfl) (evalArgs_plain ?_)
  refine Calls.spliced_cons (Calls.Constant_str (k := 0) (pos := ⟨0, 0, 0, 0⟩) (Calls.spliced_nil ?_))
  refine ⟨hu, ?_⟩
  refine call_mw (k₃ _ _ (k₂ _ _ hC₁)) (k₃ _ _ hx₂) hu (one_size _) (fun h₄ t1 k₄ hx₄ => ?_)
  -- self.sample = sample
  have k : ∀ b o, b ≠ x → h₁.get? b = some o → h₄.get? b = some o := fun b o hb e => k₄ b o hb (k₃ _ _ (k₂ _ _ e))
  have hn₄ : h₄.Ns s.heap.objs.size (fun y => ([("self", Value.ref x), ("sample", v)] : List (Str × Value)).reverse.lookup y) := by
    obtain ⟨o, es, ep, e, r⟩ := hn
    exact ⟨o, es, ep, k _ _ hxL e, r⟩
  have X₄ : K.In h₄ := fun a o e => k a o (fun z => by rw [z, hnx] at e; cases e) (X₁ a o e)
  refine wpAt_of_wpAny ?_
  refine wpAny_execs_cons (plainObj_wpAny_Assign_Attribute ?_)
  refine ldC (v := v) (env := ksEnv qual iS s.heap.objs.size fI (.ref cda) cc) hn₄ (by first | rfl | with_unfolding_all rfl | kernel_rfl) (ldC (v := .ref x) (env := ksEnv qual iS s.heap.objs.size fI (.ref cda) cc) hn₄ (by first | rfl | with_unfolding_all rfl | kernel_rfl) ?_)
  refine set_plain X₄ (ox := excO C t1) (od := none) ⟨hx₄, rfl, rfl, trivial⟩ T.sa ?_
  refine exc_osa X₄ hx₄ hcl (show refsVE (.ref C :: bm) = true from hbm) rfl T.noN (fun h₅ tk₅ dx k₅ dn dne hx₅ hn₅ => ?_)
  have zz : s.heap.objs.size ≤ h₄.objs.size := Nat.le_of_lt hn₄.lt
  exact wpAny_execs_nil (hq h₅ tk₅ dx t1 ⟨fun b o hb e => k₅ b o hb (k b o hb (hk b o e)), hx₅, Nat.le_trans zz dn, dne, hn₅⟩)
end
end SupX_C
end PySem
namespace PySem
namespace SupX_C
open PySem.W PySem.Calls PyProof.Rows PySem.HandSPX
section
variable {prog : Program} {w : World} {A : Around} {E : Value → Shared → Prop} {R : Result → Shared → Prop} {s : Shared} {K : Frag} {mg : Str → Option Value} {C fI cc cda : Addr}
theorem sup_made (T : SupTxt prog K mg C fI cc cda) {v : Value} (X : K.In s.heap) (hlim : s.heap.NoLimit) (G : s.heap.Ns mainGlobals mg) (B : ∃ mb, s.heap.Ns builtinsNs mb ∧ ∀ x : Str, x ≠ "__name__" → mb x = bootBuiltins x) (hroom : A.depth + 1 < recursionLimit)
    (hq : ∀ h' tk e d, OwnMade s.heap h' e C d v → R (.ok (.ret (.ref e))) { s with heap := h', toks := tk }) :
    codeAny (model prog w) A (.call (.ref C) ⟨[v], []⟩) R s := by
  obtain ⟨nm, q, N, bs, bm, sn, sub, ab, col, dd, k0, k1, k2, k3, k5, hC, hbm, hal⟩ := T.cls
  obtain ⟨hp, g, dr, tk, os⟩ := s
  have k : ∀ b o, hp.get? b = some o → ((hp.push (kdv_tup [v])).push (excO C hp.objs.size)).get? b = some o := fun b o e => Heap.get?_push_of_some _ (Heap.get?_push_of_some _ e)
  have hget : ((hp.push (kdv_tup [v])).push (excO C hp.objs.size)).get? (hp.objs.size + 1) = some (excO C hp.objs.size) := by heap_get
  have hnx : K.lookup (hp.objs.size + 1) = none := by
    cases e : K.lookup (hp.objs.size + 1) with
    | none => rfl
    | some o =>
      have z : hp.get? (hp.objs.size + 1) = some o := X _ _ e
      exact absurd (Nat.lt_of_succ_lt (Heap.lt_size z)) (Nat.lt_irrefl _)
  refine call_own F.excBase_ValueError (fun X => refsVE_contains X bm hbm) (X _ _ hC) (looks_findIn X T.iC) (fun self => bind_fn X self T.tC) (one_size v) ?_
  refine sup_init (s := ⟨(hp.push (kdv_tup [v])).push (excO C hp.objs.size), g, dr, tk, os⟩) T (X.keeps k) (hlim.keeps k) (G.keeps k) (let ⟨mb, b1, b2⟩ := B; ⟨mb, b1.keeps k, b2⟩) hget hnx ?_ fun h' tk' dx t1 ⟨k', hx, dn, dne, hns⟩ => ?_
  · show A.depth + 1 < recursionLimit
    exact hroom
  · have old : ∀ b o, hp.get? b = some o → h'.get? b = some o := fun b o e => k' b o (Nat.ne_of_lt (Nat.lt_succ_of_lt (Heap.lt_size e))) (k b o e)
    have z : hp.objs.size + 1 + 1 ≤ dx := by
      first
        | (simpa only [Heap.size_push] using dn)
        | exact dn
        | (have q := dn; rw [Heap.size_push, Heap.size_push] at q; exact q)
    exact ⟨rfl, hq h' tk' (hp.objs.size + 1) dx ⟨old, Nat.le_succ _, ⟨_, _, hx, rfl, rfl, rfl, rfl⟩, Nat.le_trans (Nat.le_trans (Nat.le_succ _) (Nat.le_succ _)) z, dne, hns⟩⟩
end
end SupX_C
end PySem
theorem PySem.SupX_C.SupTxt.xf {P : PySem.Program} {K : PySem.W.Frag} {mg : PySem.Str → Option PySem.Value} {C fI cc cda : PySem.Addr} (T : PySem.SupX_C.SupTxt P K mg C fI cc cda) : L2.XfC K C := ⟨T.ga, T.gg, T.exC, T.hdC⟩
namespace L2
namespace Sup_C
open PySem PySem.Spec PyProof.Rows
theorem relO_one {v : V} {v' : Value} (r : RelV v v') (f : Str) : RelO (List.lookup f [(("sample" : Str), v)]) (if f = "sample" then some v' else none) := by
  by_cases hw : f = "sample"
  · subst hw
    rw [if_pos rfl]
    have q : List.lookup ("sample" : Str) [(("sample" : Str), v)] = some v := by simp [List.lookup]
    rw [q]
    exact r
  · rw [if_neg hw]
    have qw : (f == ("sample" : Str)) = false := by simpa using hw
    have q2 : List.lookup f [(("sample" : Str), v)] = none := by simp [List.lookup, qw]
    rw [q2]
    trivial
section
variable {X : Cx} {C fI cc cda : Addr}
/-- C(e) -/
def tMk (C : Addr) (ta : TA) : St → Hp → XK → Prop := fun σ H Q => ta σ H fun vs H1 => ∃ v, vs = [v] ∧ ∀ d, H1 d = none → Q (.ref C) (some d) (upd H1 d (.xd [(("sample" : Str), v)]))
theorem pmk {a : Expr} {ta : TA} {x : Str} {p pos : Pos} {k : Nat} (T : PySem.SupX_C.SupTxt X.prog X.K X.mg C fI cc cda) (hm : X.mg x = some (.ref C)) (hr : Room k X.A) (ha : PA X [a] ta) (hg : Gl X x := by rfl)
    (hd : (x == ("__debug__" : Str)) = false := by decide)
    (he : starEach (a :: []) X.env = (false, eval a X.env) :: starEach [] X.env := by rfl) (hpl : (backTo pos (starEach [] X.env)).any (·.1) = false := by rfl) :
    PMk X (.Call (.Name x p) [a] [] pos) (tMk C ta) := by
  intro pins s σ H Q I h
  refine wpAny_Call_Name_kw (ld_glob I hg hm ?_ hd)
  refine PySem.W.callWith_K (h₀ := X.base) I.ok.mod.kin T.kC (thn (ha.run pos pins s σ H _ I h) fun us s1 hh => ?_) he hpl
  obtain ⟨vs, H1, I1, r1, v, ev, q1⟩ := hh
  subst ev
  refine ⟨I1.kIn, ?_⟩
  cases r1 with
  | cons rv rn =>
    rename_i v' us'
    cases rn
    show wpAny _ _ (call (.ref C) [v']) _ _ _
    have hlim := I1.nolimit
    have hG := I1.ok.mod.glob.keeps I1.bk
    have hB : ∃ mb, s1.heap.Ns builtinsNs mb ∧ ∀ x : Str, x ≠ "__name__" → mb x = bootBuiltins x := let ⟨mb, b1, b2⟩ := I1.ok.mod.blt; ⟨mb, b1.keeps I1.bk, b2⟩
    obtain ⟨hp, g, dr, tk, os⟩ := s1
    refine wpAny_call (PySem.SupX_C.sup_made T I1.kIn hlim hG hB (by have := hr.dp; omega) fun h' tk' e d M => ?_)
    show MkP X pins σ Q (.ref e) ⟨h', g, dr, tk', os⟩
    obtain ⟨oe, fv, hoe, hc, hd, hdat, h1⟩ := M.obj
    have hns := M.ns
    obtain ⟨G', g1, g2⟩ := restrict h' fun b => decide (b ≠ e)
    have gk : ∀ b, b ≠ e → G'.get? b = h'.get? b := fun b hb => g1 b (decide_eq_true hb)
    have ge : G'.get? e = none := g2 e (by simp)
    have old : ∀ b o, hp.get? b = some o → G'.get? b = some o := fun b o q => (gk b (Nat.ne_of_lt (Nat.lt_of_lt_of_le (Heap.lt_size q) M.new))).trans (M.keep b o q)
    have ob : ObjOk X.prog X.w (upd H1 d (.xd [(("sample" : Str), v)])) G' d (.xd [(("sample" : Str), v)]) :=
      ⟨_, hns.at (fun o q => (gk d M.dne).trans q), fun f => relO_one rv f⟩
    have J : Inv X pins σ (upd H1 d (.xd [(("sample" : Str), v)])) ⟨G', g, dr, tk', os⟩ := I1.laid (t' := tk') old M.dbig ob
    refine ⟨e, oe, fv, ⟨G', g, dr, tk', os⟩, _, .ref C, some d, rfl, J, fun b o q => ?_, ge, hoe, ⟨hc, hd⟩, hdat, h1, ?_, rfl, I1.bare, raises_own T.exC T.tyC, q1 d (I1.hok.fresh M.dbig)⟩
    · by_cases hb : b = e
      · have q' : G'.get? b = some o := q
        rw [hb, ge] at q'; cases q'
      · exact (gk b hb).symm.trans q
    · rw [upd_ne (Ne.symm M.dne)]
      exact I1.hok.fresh M.new
/-- raise C(e) -/
def tRaise (C : Addr) (W : WX) (ta : TA) : TS := fun _ σ H => tMk C ta σ H fun cls d H' => W cls d σ H'
theorem ps_raise {a : Expr} {ta : TA} {W : WX} {x : Str} {p pos pos2 : Pos} {k : Nat} (hc : X.calm = true) (T : PySem.SupX_C.SupTxt X.prog X.K X.mg C fI cc cda) (hm : X.mg x = some (.ref C)) (hr : Room k X.A) (tk : Takes X W) (ha : PA X [a] ta) (hg : Gl X x := by rfl)
    (hd : (x == ("__debug__" : Str)) = false := by decide)
    (he : starEach (a :: []) X.env = (false, eval a X.env) :: starEach [] X.env := by rfl) (hpl : (backTo pos (starEach [] X.env)).any (·.1) = false := by rfl) :
    PS X (.Raise (some (.Call (.Name x p) [a] [] pos)) none pos2) (tRaise C W ta) := L2.ps_raise hc tk (pmk T hm hr ha hg hd he hpl)
end
end Sup_C
end L2

set_option Elab.async false
set_option linter.all false
set_option maxRecDepth 100000
set_option maxHeartbeats 4000000
namespace Toy
open PySem L2
theorem b_sorted : bootBuiltins "sorted" = some (.builtin "sorted") := by decide +kernel
theorem b_max : bootBuiltins "max" = some (.builtin "max") := by decide +kernel
theorem b_min : bootBuiltins "min" = some (.builtin "min") := by decide +kernel
theorem b_dict : bootBuiltins "dict" = some (.type "dict") := by decide +kernel
theorem hu_a {k : Nat} {A : Around} (hr : Room k A) : A.units + 100 < cLine := by have := hr.un; omega
theorem hu_b {k : Nat} {A : Around} (hr : Room k A) : A.units + 1 < cLine := by have := hr.un; omega
theorem hu_c {k : Nat} {A : Around} (hr : Room k A) : A.units + 4 < cLine := by have := hr.un; omega
theorem hu_d {k : Nat} {A : Around} (hr : Room k A) : A.units + 2 < cLine := by have := hr.un; omega
structure Txt (K : PySem.W.Frag) (mg : Str → Option Value) (CR : Addr) : Prop where
  z_len : mg "len" = none
  z_isinstance : mg "isinstance" = none
  z_int : mg "int" = none
  z_bool : mg "bool" = none
  z_tuple : mg "tuple" = none
  z_list : mg "list" = none
  z_range : mg "range" = none
  z_sorted : mg "sorted" = none
  z_enumerate : mg "enumerate" = none
  z_max : mg "max" = none
  z_min : mg "min" = none
  z_dict : mg "dict" = none
  z_abs : mg "abs" = none
  cl : Cls K CR
  nG : NoAttr K CR "given"
  nL : NoAttr K CR "links"
  nU : NoAttr K CR "used"
  nR : NoAttr K CR "right_at"
  nW : NoAttr K CR "wrong_at"
def spIsInt : Sp := fun vs H Q _ => ∃ i : Int, vs = [.int i] ∧ Q (.bl true) H
/-- is_cells at base 2 -/
def spCells : Sp := fun vs H Q _ => ∃ v w, vs = [v, .int 2] ∧ DV H v (wd w) ∧ ∀ b : Bool, (b = true ↔ ∀ c ∈ w, c < 2) → Q (.bl b) H
def spWholes : Sp := fun vs H Q _ => ∃ v w, vs = [v] ∧ DV H v (wd w) ∧ Q (.bl true) H
/-- a row of a watcher of base 2 -/
abbrev Rw := Nat × Nat × Nat
def rwD (r : Rw) : Da := .tup [.int (r.1 : Int), wd [r.2.1, r.2.2]]
def rwsD (l : List Rw) : Da := .tup (l.map rwD)
def spRows : Sp := fun vs H Q _ => ∃ v l, vs = [v, .int 2] ∧ DV H v (rwsD l) ∧ Q (.bl true) H
def goRw (l : List Rw) (n c : Nat) : Nat := if c = 0 then (l.getD n (0, 0, 0)).2.1 else (l.getD n (0, 0, 0)).2.2
def okRw (l : List Rw) : Prop := ∀ r ∈ l, r.2.1 < l.length ∧ r.2.2 < l.length
def walkRw (l : List Rw) : Nat → List Nat → Nat
  | n, [] => n
  | n, c :: w => walkRw l (goRw l n c) w
def spWalk : Sp := fun vs H Q _ => ∃ v u l n w, vs = [v, .int ((n : Nat) : Int), u] ∧ DV H v (rwsD l) ∧ DV H u (wd w) ∧ (∀ c ∈ w, c < 2) ∧ okRw l ∧ n < l.length ∧ Q (.int ((walkRw l n w : Nat) : Int)) H
theorem row_at {H : Hp} {us : List V} {l : List Rw} {m : Nat} (h : DVs H us (l.map rwD)) (hm : m < l.length) : ∃ q b, us[m]? = some (.ref q) ∧ H q = some (.tup [.int ((l.getD m (0, 0, 0)).1 : Int), .ref b]) ∧ H b = some (.tup [.int ((l.getD m (0, 0, 0)).2.1 : Int), .int ((l.getD m (0, 0, 0)).2.2 : Int)]) := by
  have e : l[m]? = some (l.getD m (0, 0, 0)) := by rw [List.getD_eq_getElem?_getD, List.getElem?_eq_getElem hm]; rfl
  obtain ⟨v, hv, d⟩ := h.at (p := rwD (l.getD m (0, 0, 0))) (by rw [List.getElem?_map, e]; rfl)
  obtain ⟨q, ys, rfl, hq, hys⟩ := d.inv
  cases hys with
  | cons h1 h2 =>
    cases h2 with
    | cons h3 h4 =>
      cases h4
      cases h1
      obtain ⟨b, rfl, hb⟩ := h3.word
      exact ⟨q, b, hv, hq, hb⟩
section
variable {P : Program} {w : World} {K : PySem.W.Frag} {mg : Str → Option Value} {base : Heap} {CR : Addr}
abbrev s_is_whole : Stmt := top 6
theorem sc_is_whole : FnScope ["thing"] ["thing"] (defScope s_is_whole) := ⟨rfl, rfl, rfl, by decide +kernel, rfl, by decide +kernel, by decide +kernel⟩

theorem ok_is_int {f : Addr} {fd : FuncData} (F : Fun K "is_whole" "is_whole" s_is_whole f fd) (T : Txt K mg CR) : FnOk P w K mg base CX0 1 f fd ["thing"] spIsInt := by
  refine F.ok sc_is_whole (fun vs H Q E h => ?_) (fun cdv A outer s H vs Q E hr h => ?_)
  · obtain ⟨i, rfl, _⟩ := h
    rfl
  obtain ⟨i, rfl, k⟩ := h
  refine ⟨_, (pss_one (ps_ret (pe_and (pe_callB call_isi2 (by rfl) T.z_isinstance b_isinstance (pa_cons (pv 0) (pa_cons (pe_bltn (v := .ty "int") (by rfl) T.z_int b_int rfl) pa_nil))) (pe_one (pe_not (pe_callB call_isi2 (by rfl) T.z_isinstance b_isinstance (pa_cons (pv 0) (pa_cons (pe_bltn (v := .ty "bool") (by rfl) T.z_bool b_bool rfl) pa_nil)))))))), ?_⟩
  refine ⟨_, rfl, _, _, _, true, rfl, .base (.int i), by decide +kernel, _, rfl, ifT rfl ?_⟩
  exact ⟨_, rfl, _, _, _, false, rfl, .base (.int i), by decide +kernel, _, rfl, k⟩
abbrev s_is_cells : Stmt := top 7
theorem sc_is_cells : FnScope ["thing", "base", "cell"] ["thing", "base"] (defScope s_is_cells) := ⟨rfl, rfl, rfl, by decide +kernel, rfl, by decide +kernel, by decide +kernel⟩

theorem ok_is_cells {f : Addr} {fd : FuncData} (F : Fun K "is_cells" "is_cells" s_is_cells f fd) (T : Txt K mg CR) (C_is_whole : CalX P w K mg base CX0 1 "is_whole" spIsInt) : FnOk P w K mg base CX0 2 f fd ["thing", "base"] spCells := by
  refine F.ok sc_is_cells (fun vs H Q E h => ?_) (fun cdv A outer s H vs Q E hr h => ?_)
  · obtain ⟨v, w, rfl, _⟩ := h
    rfl
  obtain ⟨v, cs, rfl, hv, k⟩ := h
  obtain ⟨a, rfl, ha⟩ := hv.word
  refine ⟨_, (pss_cons (ps_if (pt_not (pt_val (pe_callB call_isi2 (by rfl) T.z_isinstance b_isinstance (pa_cons (pv 0) (pa_cons (pe_bltn (v := .ty "tuple") (by rfl) T.z_tuple b_tuple rfl) pa_nil))))) (pss_one (ps_ret pe_bl)) pss_nil)
    (pss_cons (ps_for PassesOwn.never rfl (pi_tup (pv 0)) (pg_name (i := 2) sc_is_cells.nd rfl (Or.inl rfl)) (pss_one (ps_if (PW.pt (pw_or (pt_not (pt_val (pe_u C_is_whole hr (by omega) pass0 (pa_cons (pv 2) pa_nil)))) (pw_or1 (pt_not (pt_chain op_le op_lt pe_int (pv 2) (pv 1)))))) (pss_one (ps_ret pe_bl)) pss_nil)))
    (pss_one (ps_ret pe_bl)))), ?_⟩
  refine ⟨_, rfl, _, _, _, true, rfl, .base (.tup ha), by decide +kernel, _, rfl, ifF (by simp) ?_⟩
  refine ⟨_, rfl, a, rfl, ⟨_, SqT.of ha⟩, for_tup (K := K) (a := a) (xs := cs.map fun c : Nat => V.int (c : Int)) (fun i σ H' => H' = H ∧ (∃ g, σ = [some (.ref a), some (.int 2), g]) ∧ ∀ c ∈ cs.take i, c < 2) ⟨rfl, ⟨_, rfl⟩, by simp⟩ (fun i σ H' _ h => by rw [h.1]; exact SqT.of ha) (fun i x σ H' hx h => ?_) (fun σ H' h => ?_)⟩
  · obtain ⟨rfl, ⟨g, rfl⟩, hc⟩ := h
    rw [List.getElem?_map] at hx
    obtain ⟨c, hc1, rfl⟩ := Option.map_eq_some_iff.mp hx
    refine ⟨_, rfl, _, rfl, _, rfl, ifF (by simp) ?_⟩
    refine ⟨_, rfl, _, _, rfl, rfl, _, rfl, ite2 (fun d => ?_) (fun d => absurd (decide_eq_true (show (0 : Int) ≤ (c : Int) by omega)) d)⟩
    refine ⟨_, rfl, _, _, rfl, rfl, _, rfl, ite2 (fun d => ?_) (fun d => ?_)⟩
    · have d' : ¬ (c : Int) < 2 := by simpa using d
      exact k _ ⟨fun z => (by cases z), fun z => absurd (z c (List.mem_of_getElem? hc1)) (by omega)⟩
    · have d' : (c : Int) < 2 := by simpa using d
      refine ⟨rfl, ⟨_, rfl⟩, fun e he => ?_⟩
      rw [List.take_succ, hc1] at he
      rcases List.mem_append.mp he with z | z
      · exact hc e z
      · simp at z; omega
  · obtain ⟨rfl, ⟨g, rfl⟩, hc⟩ := h
    rw [List.length_map, List.take_length] at hc
    exact k _ ⟨fun _ => hc, fun _ => rfl⟩
abbrev s_is_wholes : Stmt := top 8
theorem sc_is_wholes : FnScope ["thing", "part"] ["thing"] (defScope s_is_wholes) := ⟨rfl, rfl, rfl, by decide +kernel, rfl, by decide +kernel, by decide +kernel⟩

theorem ok_is_wholes {f : Addr} {fd : FuncData} (F : Fun K "is_wholes" "is_wholes" s_is_wholes f fd) (T : Txt K mg CR) (C_is_whole : CalX P w K mg base CX0 1 "is_whole" spIsInt) : FnOk P w K mg base CX0 2 f fd ["thing"] spWholes := by
  refine F.ok sc_is_wholes (fun vs H Q E h => ?_) (fun cdv A outer s H vs Q E hr h => ?_)
  · obtain ⟨v, w, rfl, _⟩ := h
    rfl
  obtain ⟨v, cs, rfl, hv, k⟩ := h
  obtain ⟨a, rfl, ha⟩ := hv.word
  refine ⟨_, (pss_cons (ps_if (pt_not (pt_val (pe_callB call_isi2 (by rfl) T.z_isinstance b_isinstance (pa_cons (pv 0) (pa_cons (pe_bltn (v := .ty "tuple") (by rfl) T.z_tuple b_tuple rfl) pa_nil))))) (pss_one (ps_ret pe_bl)) pss_nil)
    (pss_cons (ps_for PassesOwn.never rfl (pi_tup (pv 0)) (pg_name (i := 1) sc_is_wholes.nd rfl (Or.inl rfl)) (pss_one (ps_if (pt_not (pt_val (pe_u C_is_whole hr (by omega) pass0 (pa_cons (pv 1) pa_nil)))) (pss_one (ps_ret pe_bl)) pss_nil)))
    (pss_one (ps_ret pe_bl)))), ?_⟩
  refine ⟨_, rfl, _, _, _, true, rfl, .base (.tup ha), by decide +kernel, _, rfl, ifF (by simp) ?_⟩
  refine ⟨_, rfl, a, rfl, ⟨_, SqT.of ha⟩, for_tup (K := K) (a := a) (xs := cs.map fun c : Nat => V.int (c : Int)) (fun i σ H' => H' = H ∧ ∃ g, σ = [some (.ref a), g]) ⟨rfl, ⟨_, rfl⟩⟩ (fun i σ H' _ h => by rw [h.1]; exact SqT.of ha) (fun i x σ H' hx h => ?_) (fun σ H' h => ?_)⟩
  · obtain ⟨rfl, ⟨g, rfl⟩⟩ := h
    rw [List.getElem?_map] at hx
    obtain ⟨c, hx, rfl⟩ := Option.map_eq_some_iff.mp hx
    exact ⟨_, rfl, _, rfl, _, rfl, ifF (by simp) ⟨rfl, _, rfl⟩⟩
  · obtain ⟨rfl, ⟨g, rfl⟩⟩ := h
    exact k
abbrev s_is_rows : Stmt := top 9
theorem sc_is_rows : FnScope ["thing", "width", "row"] ["thing", "width"] (defScope s_is_rows) := ⟨rfl, rfl, rfl, by decide +kernel, rfl, by decide +kernel, by decide +kernel⟩

theorem ok_is_rows {f : Addr} {fd : FuncData} (F : Fun K "is_rows" "is_rows" s_is_rows f fd) (T : Txt K mg CR) : FnOk P w K mg base CX0 1 f fd ["thing", "width"] spRows := by
  refine F.ok sc_is_rows (fun vs H Q E h => ?_) (fun cdv A outer s H vs Q E hr h => ?_)
  · obtain ⟨v, w, rfl, _⟩ := h
    rfl
  obtain ⟨v, rs, rfl, hv, k⟩ := h
  obtain ⟨a, us, rfl, ha, hs⟩ := hv.inv
  refine ⟨_, (pss_cons (ps_if (pt_not (pt_val (pe_callB call_isi2 (by rfl) T.z_isinstance b_isinstance (pa_cons (pv 0) (pa_cons (pe_bltn (v := .ty "tuple") (by rfl) T.z_tuple b_tuple rfl) pa_nil))))) (pss_one (ps_ret pe_bl)) pss_nil)
    (pss_cons (ps_for PassesOwn.never rfl (pi_tup (pv 0)) (pg_name (i := 2) sc_is_rows.nd rfl (Or.inl rfl)) (pss_one (ps_if (PW.pt (pw_or (pt_not (pt_val (pe_callB call_isi2 (by rfl) T.z_isinstance b_isinstance (pa_cons (pv 2) (pa_cons (pe_bltn (v := .ty "tuple") (by rfl) T.z_tuple b_tuple rfl) pa_nil))))) (pw_or1 (pt_cmpR op_ne (pe_callB call_len_seq (by rfl) T.z_len b_len (pa_cons (pv 2) pa_nil)) (pv 1) (nomark _))))) (pss_one (ps_ret pe_bl)) pss_nil)))
    (pss_one (ps_ret pe_bl)))), ?_⟩
  refine ⟨_, rfl, _, _, _, true, rfl, .base (.tup ha), by decide +kernel, _, rfl, ifF (by simp) ?_⟩
  refine ⟨_, rfl, a, rfl, ⟨_, SqT.of ha⟩, for_tup (K := K) (a := a) (xs := us) (fun i σ H' => H' = H ∧ ∃ g, σ = [some (.ref a), some (.int 2), g]) ⟨rfl, ⟨_, rfl⟩⟩ (fun i σ H' _ h => by rw [h.1]; exact SqT.of ha) (fun i x σ H' hx h => ?_) (fun σ H' h => ?_)⟩
  · obtain ⟨rfl, ⟨g, rfl⟩⟩ := h
    obtain ⟨p, hp, hv⟩ := hs.get hx
    rw [List.getElem?_map] at hp
    obtain ⟨r, hr2, rfl⟩ := Option.map_eq_some_iff.mp hp
    obtain ⟨b, ys, rfl, hb, hys⟩ := hv.inv
    have hl := hys.length
    refine ⟨_, rfl, _, _, _, true, rfl, .base (.tup hb), by decide +kernel, _, rfl, ifF (by simp) ?_⟩
    refine ⟨_, rfl, b, _, rfl, .inr (SqT.of hb), _, rfl, rfl, _, rfl, ifF ?_ ⟨rfl, _, rfl⟩⟩
    rw [hl]
    simp
  · obtain ⟨rfl, ⟨g, rfl⟩⟩ := h
    exact k
abbrev s_walk : Stmt := top 11
theorem sc_walk : FnScope ["rows", "number", "cells", "cell"] ["rows", "number", "cells"] (defScope s_walk) := ⟨rfl, rfl, rfl, by decide +kernel, rfl, by decide +kernel, by decide +kernel⟩

theorem ok_walk {f : Addr} {fd : FuncData} (F : Fun K "walk" "walk" s_walk f fd) (T : Txt K mg CR) : FnOk P w K mg base CX0 1 f fd ["rows", "number", "cells"] spWalk := by
  refine F.ok sc_walk (fun vs H Q E h => ?_) (fun cdv A outer s H vs Q E hr h => ?_)
  · obtain ⟨v, u, l, n, w, rfl, _⟩ := h
    rfl
  obtain ⟨v, u, l, n, cs, rfl, hv, hu, hc, ok, hn, k⟩ := h
  obtain ⟨a, us, rfl, ha, hs⟩ := hv.inv
  obtain ⟨b, rfl, hb⟩ := hu.word
  refine ⟨_, (pss_cons (ps_for PassesOwn.never rfl (pi_tup (pv 2)) (pg_name (i := 3) sc_walk.nd rfl (Or.inl rfl)) (pss_one (ps_if (pt_cmpR op_ge (pv 1) pe_int (nomark _)) (pss_one (ps_set (i := 1) sc_walk.nd rfl (Or.inl rfl) (pe_ix ix_tup (pe_ix ix_tup (pe_ix ix_tup (pv 0) (pv 1) (fun _ _ => rfl)) pe_int (fun _ _ => rfl)) (pv 3) (fun _ _ => rfl)))) pss_nil)))
    (pss_one (ps_ret (pv 1)))), ?_⟩
  refine ⟨_, rfl, b, rfl, ⟨_, SqT.of hb⟩, for_tup (K := K) (a := b) (xs := cs.map fun c : Nat => V.int (c : Int)) (fun i σ H' => H' = H ∧ ∃ g m, σ = [some (.ref a), some (.int ((m : Nat) : Int)), some (.ref b), g] ∧ m < l.length ∧ walkRw l m (cs.drop i) = walkRw l n cs) ⟨rfl, _, _, rfl, hn, rfl⟩ (fun i σ H' _ h => by rw [h.1]; exact SqT.of hb) (fun i x σ H' hx h => ?_) (fun σ H' h => ?_)⟩
  · obtain ⟨rfl, g, m, rfl, hm, hw⟩ := h
    rw [List.getElem?_map] at hx
    obtain ⟨c, hc1, rfl⟩ := Option.map_eq_some_iff.mp hx
    refine ⟨_, rfl, _, _, rfl, rfl, _, rfl, ite2 (fun d => ?_) (fun d => absurd (decide_eq_true (show (0 : Int) ≤ (m : Int) by omega)) d)⟩
    obtain ⟨q, e, h1, h2, h3⟩ := row_at hs hm
    have cl : c < 2 := hc c (List.mem_of_getElem? hc1)
    have lst : l.getD m (0, 0, 0) ∈ l := by
      rw [List.getD_eq_getElem?_getD, List.getElem?_eq_getElem hm]
      exact List.getElem_mem hm
    have go : atI [V.int ((l.getD m (0, 0, 0)).2.1 : Int), V.int ((l.getD m (0, 0, 0)).2.2 : Int)] (c : Int) = some (.int (goRw l m c : Nat)) := by
      unfold goRw
      have c2 : c = 0 ∨ c = 1 := by omega
      rcases c2 with rfl | rfl <;> rfl
    have dr : cs.drop i = c :: cs.drop (i + 1) := by
      obtain ⟨h1, h2⟩ := List.getElem?_eq_some_iff.mp hc1
      rw [List.drop_eq_getElem_cons h1, h2]
    refine ⟨_, rfl, _, rfl, a, _, _, _, rfl, rfl, SqT.of ha, atI_nat h1, q, _, 1, _, rfl, rfl, SqT.of h2, rfl, _, rfl, e, _, _, _, rfl, rfl, SqT.of h3, go, ?_⟩
    refine ⟨rfl, _, goRw l m c, rfl, ?_, ?_⟩
    · unfold goRw
      have := ok _ lst
      split <;> omega
    · rw [dr] at hw
      exact hw
  · obtain ⟨rfl, g, m, rfl, hm, hw⟩ := h
    rw [List.length_map, List.drop_length] at hw
    rw [← hw] at k
    exact ⟨_, rfl, k⟩
end
end Toy

set_option Elab.async false
set_option linter.all false
set_option maxRecDepth 100000
set_option maxHeartbeats 4000000
namespace Toy
open PySem L2
/-! lists side by side -/
inductive A2 {α β : Type} (R : α → β → Prop) : List α → List β → Prop
  | nil : A2 R [] []
  | cons {a : α} {b : β} {as : List α} {bs : List β} : R a b → A2 R as bs → A2 R (a :: as) (b :: bs)
theorem A2.mono {α β : Type} {R S : α → β → Prop} (h : ∀ a b, R a b → S a b) : ∀ {as : List α} {bs : List β}, A2 R as bs → A2 S as bs
  | _, _, .nil => .nil
  | _, _, .cons a b => .cons (h _ _ a) (A2.mono h b)
theorem A2.length {α β : Type} {R : α → β → Prop} : ∀ {as : List α} {bs : List β}, A2 R as bs → as.length = bs.length
  | _, _, .nil => rfl
  | _, _, .cons _ b => by simp [A2.length b]
theorem A2.append {α β : Type} {R : α → β → Prop} {cs : List α} {ds : List β} : ∀ {as : List α} {bs : List β}, A2 R as bs → A2 R cs ds → A2 R (as ++ cs) (bs ++ ds)
  | _, _, .nil, h => h
  | _, _, .cons a b, h => .cons a (A2.append b h)
theorem A2.get {α β : Type} {R : α → β → Prop} : ∀ {as : List α} {bs : List β} {i : Nat} {a : α}, A2 R as bs → as[i]? = some a → ∃ b, bs[i]? = some b ∧ R a b
  | _, _, i, _, .nil, e => by simp at e
  | _, _, 0, _, .cons a _, e => by simp at e; subst e; exact ⟨_, rfl, a⟩
  | _, _, i + 1, _, .cons _ b, e => by
    obtain ⟨p, e1, e2⟩ := A2.get b (i := i) (by simpa using e)
    exact ⟨p, by simpa using e1, e2⟩
theorem A2.at {α β : Type} {R : α → β → Prop} : ∀ {as : List α} {bs : List β} {i : Nat} {b : β}, A2 R as bs → bs[i]? = some b → ∃ a, as[i]? = some a ∧ R a b
  | _, _, i, _, .nil, e => by simp at e
  | _, _, 0, _, .cons a _, e => by simp at e; subst e; exact ⟨_, rfl, a⟩
  | _, _, i + 1, _, .cons _ b, e => by
    obtain ⟨p, e1, e2⟩ := A2.at b (i := i) (by simpa using e)
    exact ⟨p, by simpa using e1, e2⟩
theorem A2.perm {α β : Type} {R : α → β → Prop} {as cs : List α} (p : as.Perm cs) : ∀ {bs : List β}, A2 R as bs → ∃ ds, bs.Perm ds ∧ A2 R cs ds := by
  induction p with
  | nil => intro bs h; exact ⟨bs, .refl _, h⟩
  | cons x _ ih =>
    intro bs h
    cases h with
    | cons a b =>
      obtain ⟨ds, p, q⟩ := ih b
      exact ⟨_, p.cons _, .cons a q⟩
  | swap x y l =>
    intro bs h
    cases h with
    | cons a b => cases b with | cons c d => exact ⟨_, .swap _ _ _, .cons c (.cons a d)⟩
  | trans _ _ ih1 ih2 =>
    intro bs h
    obtain ⟨ds, p, q⟩ := ih1 h
    obtain ⟨es, r, s⟩ := ih2 q
    exact ⟨es, p.trans r, s⟩
theorem dvs_a2 {H : Hp} {ws : List (List Nat)} : ∀ {vs : List V}, A2 (fun v w => DV H v (wd w)) vs ws → DVs H vs (ws.map wd) := by
  induction ws with
  | nil => intro vs h; cases h; exact .nil
  | cons w ws ih => intro vs h; cases h with | cons a b => exact .cons a (ih b)
theorem a2_dvs {H : Hp} {ws : List (List Nat)} : ∀ {vs : List V}, DVs H vs (ws.map wd) → A2 (fun v w => DV H v (wd w)) vs ws := by
  induction ws with
  | nil => intro vs h; cases h; exact .nil
  | cons w ws ih => intro vs h; cases h with | cons a b => exact .cons a (ih b)
/-! the order of words -/
def kw (w : List Nat) : Int × List Int := ((w.length : Int), w.map fun c : Nat => ((c : Nat) : Int))
def ltW (a b : List Nat) : Bool := LW.lexN (kw a) (kw b)
theorem kw_inj {a b : List Nat} (h : kw a = kw b) : a = b := by
  have := congrArg Prod.snd h
  exact (List.map_inj_right (fun x y e => Int.ofNat_inj.mp e)).mp this
theorem ltW_irr (a : List Nat) : ltW a a = false := (LW.lexN_swo kw).refl a
theorem ltW_asym {a b : List Nat} (h : ltW a b = true) : ltW b a = false := (LW.lexN_swo kw).asym a b h
theorem ltW_tri {a b : List Nat} (h1 : ltW a b = false) (h2 : ltW b a = false) : a = b := kw_inj (LW.lexN_tri _ _ h1 h2)
theorem ltW_trans {a b c : List Nat} (h1 : ltW a b = true) (h2 : ltW b c = true) : ltW a c = true := by
  cases h : ltW a c with
  | true => rfl
  | false =>
    have q : ltW a b = false := (LW.lexN_swo kw).tr b c a (ltW_asym h2) h
    rw [h1] at q; cases q
theorem ltW_len {a b : List Nat} (h : a.length < b.length) : ltW a b = true := by
  unfold ltW LW.lexN kw
  rw [if_neg (by simp; omega)]
  exact decide_eq_true (by simp; omega)
abbrev SortedW (ws : List (List Nat)) : Prop := ws.Pairwise fun a b => ltW a b = true
theorem SortedW.nodup {ws : List (List Nat)} (h : SortedW ws) : ws.Nodup := h.imp fun {a b} q e => by rw [e, ltW_irr] at q; cases q
theorem sorted_uniq : ∀ {a b : List (List Nat)}, SortedW a → SortedW b → (∀ w, w ∈ a ↔ w ∈ b) → a = b
  | [], [], _, _, _ => rfl
  | [], y :: ys, _, _, h => absurd ((h y).mpr (by simp)) (by simp)
  | x :: xs, [], _, _, h => absurd ((h x).mp (by simp)) (by simp)
  | x :: xs, y :: ys, h1, h2, h => by
    obtain ⟨a1, a2⟩ := List.pairwise_cons.mp h1
    obtain ⟨b1, b2⟩ := List.pairwise_cons.mp h2
    have e : x = y := by
      rcases List.mem_cons.mp ((h x).mp (by simp)) with e | m
      · exact e
      · rcases List.mem_cons.mp ((h y).mpr (by simp)) with e | m2
        · exact e.symm
        · have := ltW_asym (b1 x m)
          rw [a1 y m2] at this; cases this
    subst e
    refine congrArg _ (sorted_uniq a2 b2 fun w => ⟨fun m => ?_, fun m => ?_⟩)
    · rcases List.mem_cons.mp ((h w).mp (List.mem_cons_of_mem _ m)) with e | q
      · subst e; have := a1 w m; rw [ltW_irr] at this; cases this
      · exact q
    · rcases List.mem_cons.mp ((h w).mpr (List.mem_cons_of_mem _ m)) with e | q
      · subst e; have := b1 w m; rw [ltW_irr] at this; cases this
      · exact q
/-! keys -/
def ky (w : List Nat) : List Key := w.map fun c : Nat => Sum.inl ((c : Nat) : Int)
theorem ky_vs (w : List Nat) : (ky w).map kV = w.map fun c : Nat => V.int (c : Int) := by unfold ky; rw [List.map_map]; rfl
theorem ky_inj {a b : List Nat} (h : ky a = ky b) : a = b := (List.map_inj_right (fun x y e => Int.ofNat_inj.mp (Sum.inl.inj e))).mp h
def en (w : List Nat) : List Key × V := (ky w, .bl true)
theorem put_en (gs : List (List Nat)) (w : List Nat) : putK (gs.map en) (ky w) (.bl true) = if w ∈ gs then gs.map en else (gs ++ [w]).map en := by
  unfold putK
  have e : ((gs.map en).any fun kv => decide (kv.1 = ky w)) = decide (w ∈ gs) := by
    rw [Bool.eq_iff_iff, List.any_eq_true, decide_eq_true_eq]
    constructor
    · rintro ⟨p, hp, h⟩
      obtain ⟨g, hg, rfl⟩ := List.mem_map.mp hp
      have := ky_inj (of_decide_eq_true h : ky g = ky w)
      rwa [← this]
    · intro h
      exact ⟨en w, List.mem_map.mpr ⟨w, h, rfl⟩, decide_eq_true rfl⟩
  rw [e]
  by_cases h : w ∈ gs
  · rw [if_pos (decide_eq_true h), if_pos h]
    refine (List.map_congr_left fun p hp => ?_).trans (List.map_id _)
    obtain ⟨g, _, rfl⟩ := List.mem_map.mp hp
    by_cases q : (en g).1 = ky w
    · rw [if_pos q]; rfl
    · rw [if_neg q]; rfl
  · rw [if_neg (by rw [decide_eq_false h]; decide), if_neg h, List.map_append]
    rfl
/-- a pair (length, word) -/
def PairAt (H : Hp) (v : V) (w : List Nat) : Prop := ∃ t b, v = .ref t ∧ H t = some (.tup [.int ((w.length : Nat) : Int), .ref b]) ∧ H b = some (.tup (w.map fun c : Nat => V.int (c : Int)))
theorem PairAt.mono {H H' : Hp} (k : Tups H H') {v : V} {w : List Nat} (h : PairAt H v w) : PairAt H' v w := by
  obtain ⟨t, b, e, h1, h2⟩ := h
  exact ⟨t, b, e, k _ _ h1, k _ _ h2⟩
def vInt : V → Int
  | .int i => i
  | _ => 0
def kOf (H : Hp) : V → Int × List Int
  | .ref t => match H t with
    | some (.tup [.int i, .ref b]) => match H b with
      | some (.tup ys) => (i, ys.map vInt)
      | _ => (0, [])
    | _ => (0, [])
  | _ => (0, [])
theorem kOf_pair {H : Hp} {v : V} {w : List Nat} (h : PairAt H v w) : kOf H v = kw w := by
  obtain ⟨t, b, rfl, h1, h2⟩ := h
  simp only [kOf, h1, h2, kw, List.map_map]
  rfl
def spOrder : Sp := fun vs H Q _ => ∃ (p : Addr) (us : List V) (fs : List (List Nat)), vs = [.ref p] ∧ H p = some (.lst us) ∧ DVs H us (fs.map wd) ∧ fs.length ≤ 1000 ∧
  ∀ (q : Addr) (H' : Hp) (us' : List V) (ws : List (List Nat)), Same H H' → H' q = some (.lst us') → DVs H' us' (ws.map wd) → SortedW ws → (∀ w, w ∈ ws ↔ w ∈ fs) → Q (.ref q) H'
/-- what sorted gives -/
theorem sorted_gives {H : Hp} {vs ys : List V} {ws : List (List Nat)} (a : A2 (PairAt H) vs ws) (nd : ws.Nodup) (h1 : SrtO.Srtd (fun u v => LW.lexN (kOf H u) (kOf H v)) ys) (h2 : SrtO.Stb (fun u v => LW.lexN (kOf H u) (kOf H v)) ys vs) :
    ∃ zs, A2 (PairAt H) ys zs ∧ SortedW zs ∧ ∀ w, w ∈ zs ↔ w ∈ ws := by
  obtain ⟨zs, p, q⟩ := A2.perm h2.perm.symm a
  refine ⟨zs, q, ?_, fun w => p.mem_iff.symm⟩
  have nd2 : zs.Nodup := p.nodup_iff.mp nd
  refine List.pairwise_iff_getElem.mpr fun i j hi hj lt => ?_
  obtain ⟨u, hu, pu⟩ := q.at (List.getElem?_eq_getElem hi)
  obtain ⟨v, hv, pv⟩ := q.at (List.getElem?_eq_getElem hj)
  obtain ⟨li, eu⟩ := List.getElem?_eq_some_iff.mp hu
  obtain ⟨lj, ev⟩ := List.getElem?_eq_some_iff.mp hv
  have s := List.pairwise_iff_getElem.mp h1 i j li lj lt
  rw [eu, ev] at s
  have s : LW.lexN (kOf H v) (kOf H u) = false := s
  rw [kOf_pair pu, kOf_pair pv] at s
  cases c : ltW zs[i] zs[j] with
  | true => rfl
  | false =>
    have e := ltW_tri c s
    exact absurd e (List.pairwise_iff_getElem.mp nd2 i j hi hj lt)
section
variable {P : Program} {w : World} {K : PySem.W.Frag} {mg : Str → Option Value} {base : Heap} {CR : Addr}
theorem wd_ky {H : Hp} {a : Addr} {w : List Nat} (e : H a = some (.tup ((ky w).map kV))) : DV H (.ref a) (wd w) := .of_word (by rw [← ky_vs]; exact e)
abbrev s_in_order : Stmt := top 15
theorem sc_in_order : FnScope ["files", "found", "file", "row"] ["files"] (defScope s_in_order) := ⟨rfl, rfl, rfl, by decide +kernel, rfl, by decide +kernel, by decide +kernel⟩

theorem ok_in_order {f : Addr} {fd : FuncData} (F : Fun K "in_order" "in_order" s_in_order f fd) (T : Txt K mg CR) : FnOk P w K mg base CX0 1 f fd ["files"] spOrder := by
  refine F.ok sc_in_order (fun vs H Q E h => ?_) (fun cdv A outer s H vs Q E hr h => ?_)
  · obtain ⟨p, us, fs, rfl, _⟩ := h
    rfl
  obtain ⟨p, us, fs, rfl, hp, hd, hl, k⟩ := h
  have hlen := hd.length
  rw [List.length_map] at hlen
  refine ⟨_, (pss_cons (ps_set (i := 1) sc_in_order.nd rfl (Or.inl rfl) pe_dnewT)
    (pss_cons (ps_for PassesOwn.never rfl (pi_list (pv 0)) (pg_name (i := 2) sc_in_order.nd rfl (Or.inl rfl)) (pss_one (ps_dput (hu_b hr) (pv 1) (pv 2) pe_bl rfl)))
    (pss_one (ps_ret (pe_lc (own := [("row", 3)]) (g := gName 3) (by rfl) sc_in_order.nd (pi_list (pe_callB (cr_sortLW (hu_c hr)) (by rfl) T.z_sorted b_sorted (pa_cons (pe_lock (pe_lc (own := [("file", 2)]) (g := gName 2) (by rfl) sc_in_order.nd (pi_keys (pv 1)) (blkOk_by (own := [("file", 2)]) (N := ["files", "found", "file", "row"]) (sc := defScope s_in_order) (by decide +kernel)) (fun _ _ _ _ _ => pg_name (i := 2) sc_in_order.nd rfl (Or.inl rfl)) (fun _ _ _ _ _ => pts_nil) (fun _ _ _ _ _ => (pe_tup (pa_cons (pe_callB (callK_len_seq K rfl) (by rfl) T.z_len b_len (pa_cons (pv 2) pa_nil)) (pa_cons (pv 2) pa_nil)))))) pa_nil))) (blkOk_by (own := [("row", 3)]) (N := ["files", "found", "file", "row"]) (sc := defScope s_in_order) (by decide +kernel)) (fun _ _ _ _ _ => pg_name (i := 3) sc_in_order.nd rfl (Or.inl rfl)) (fun _ _ _ _ _ => pts_nil) (fun _ _ _ _ _ => (pe_ix (ixK_tup K rfl) (pv 3) pe_int (fun _ _ => rfl)))))))), ?_⟩
  intro d hdn
  refine ⟨_, rfl, p, rfl, ⟨_, SqL.of (by rw [upd_ne (ne_of_none hp hdn)]; exact hp)⟩, for_list (K := K) (a := p) (xs := us) (fun i σ H' => Same H H' ∧ (∃ g2, σ = [some (.ref p), some (.ref d), g2, none]) ∧ ∃ gs : List (List Nat), H' d = some (.dT (gs.map en)) ∧ gs.Nodup ∧ gs.length ≤ i ∧ ∀ w, w ∈ gs ↔ w ∈ fs.take i)
    ⟨Same.upd hdn, ⟨_, rfl⟩, [], upd_same, List.nodup_nil, Nat.le_refl 0, by simp⟩ (fun i σ H' _ h => SqL.of (h.1 _ _ hp)) (fun i x σ H' hx h => ?_) (fun σ H' h => ?_)⟩
  · obtain ⟨s1, ⟨g2, rfl⟩, gs, hg, nd, gl, mem⟩ := h
    obtain ⟨q, hq, dv⟩ := hd.get hx
    rw [List.getElem?_map] at hq
    obtain ⟨f0, hf, rfl⟩ := Option.map_eq_some_iff.mp hq
    obtain ⟨a, rfl, ha⟩ := (dv.mono (same_tp s1)).word
    have hi : i < us.length := (List.getElem?_eq_some_iff.mp hx).1
    refine ⟨_, rfl, _, rfl, d, _, rfl, DPut.t (k := ky f0) hg (by rw [ky_vs]; exact ha) (by rw [List.length_map]; exact small1000 (by omega)), ?_⟩
    rw [put_en]
    have tk : fs.take (i + 1) = fs.take i ++ [f0] := by rw [List.take_succ, hf]; rfl
    refine ⟨fun b o e => by rw [upd_ne (ne_of_none e hdn)]; exact s1 b o e, ⟨_, rfl⟩, if f0 ∈ gs then gs else gs ++ [f0], ?_, ?_, ?_, fun w => ?_⟩
    · rw [upd_same]; split <;> rfl
    · split
      · exact nd
      · rename_i c
        exact List.nodup_append.mpr ⟨nd, by simp, fun u hu b hb e => by simp at hb; subst hb; subst e; exact c hu⟩
    · split
      · omega
      · simp; omega
    · rw [tk, List.mem_append, ← mem w]
      split
      · rename_i c
        simp
        intro e; subst e; exact c
      · rw [List.mem_append]
  · obtain ⟨s1, ⟨g2, rfl⟩, gs, hg, nd, gl, mem⟩ := h
    rw [hlen, List.take_length] at mem
    have gl2 : gs.length ≤ 1000 := by omega
    -- the pairs
    refine ⟨d, _, hg, True.intro, fun od => ⟨_, rfl, d, od, rfl, .inr ⟨_, upd_same, fun D hD => ?_⟩⟩⟩
    have Dd : D ≠ d := fun z => by rw [z, upd_same] at hD; cases hD
    have HD : H' D = none := by rwa [upd_ne Dd] at hD
    refine lc_it (n := (gs.map en).length) walk_keysT (fun i H2 => H2 d = some (.frz od (.dT (gs.map en))) ∧ (∀ b o, b ≠ d → H' b = some o → H2 b = some o) ∧ ∃ ts, H2 D = some (.lst ts) ∧ A2 (PairAt H2) ts (gs.take i)) ⟨?_, ?_, [], upd_same, .nil⟩ (fun i H2 _ h => h.1) (fun i x H2 H3 hi h y => ?_) (fun H2 h => ?_)
    · rw [upd_ne (Ne.symm Dd), upd_same]
    · intro b o nb e
      rw [upd_ne (ne_of_none e HD), upd_ne nb]; exact e
    · obtain ⟨fz, sm, ts, hts, a2⟩ := h
      obtain ⟨rfl, kk, v, q, ek, rfl, hq⟩ := y
      rw [List.getElem?_map] at ek
      obtain ⟨g0, hg0, eg⟩ := Option.map_eq_some_iff.mp ek
      obtain rfl : ky g0 = kk := congrArg Prod.fst eg
      rw [ky_vs] at hq
      refine ⟨rfl, ?_⟩
      simp only [tYes, if_true]
      refine ⟨_, rfl, q, _, rfl, .inr (SqT.of hq), _, rfl, by show 2 ≤ sizeLine; decide, fun t ht => ⟨ts, ?_, ?_, ?_⟩⟩
      · rw [upd_ne (ne_of_none hts ht)]; exact hts
      · have := a2.length
        rw [List.length_take] at this
        exact small1000 (by omega)
      · have tp : Tups H3 (upd (upd H3 t (.tup [.int (((g0.map fun c : Nat => V.int (c : Int)).length : Nat) : Int), .ref q])) D (.lst (ts ++ [V.ref t]))) :=
          (tups_new ht).trans (tups_upd fun xs e => by rw [upd_ne (ne_of_none hts ht), hts] at e; cases e)
        refine ⟨?_, ?_, _, upd_same, ?_⟩
        · rw [upd_ne (Ne.symm Dd), upd_ne (ne_of_none fz ht)]; exact fz
        · intro b o nb e
          rw [upd_ne (ne_of_none e HD), upd_ne (ne_of_none (sm b o nb e) ht)]
          exact sm b o nb e
        · rw [List.take_succ, hg0]
          refine (a2.mono fun v w h => h.mono tp).append (.cons ⟨t, q, rfl, ?_, tp _ _ ?_⟩ .nil)
          · rw [upd_ne (fun z => by rw [z, hts] at ht; cases ht), upd_same, List.length_map]
          · exact hq
    · obtain ⟨fz, sm, ts, hts, a2⟩ := h
      rw [List.length_map, List.take_length] at a2
      refine ⟨fz, ?_⟩
      obtain ⟨H3, hH3⟩ : ∃ H3, H3 = upd H2 d (.dT (gs.map en)) := ⟨_, rfl⟩
      rw [← hH3]
      have tp3 : Tups H2 H3 := by rw [hH3]; exact tups_upd fun xs e => by rw [fz] at e; cases e
      have h3D : H3 D = some (.lst ts) := by rw [hH3, upd_ne Dd]; exact hts
      have a3 := a2.mono fun v w h => h.mono tp3
      have s3 : Same H H3 := fun b o e => by
        have e1 := s1 b o e
        by_cases c : b = d
        · subst c; rw [hdn] at e; cases e
        · rw [hH3, upd_ne c]; exact sm b o c e1
      refine ⟨D, ts, kOf H3, rfl, SqL.of h3D, fun x hx => ?_, fun ys p1 o1 o2 hp1 => ?_⟩
      · obtain ⟨j, hj, rfl⟩ := List.getElem_of_mem hx
        obtain ⟨g0, hg0, pr⟩ := a3.get (List.getElem?_eq_getElem hj)
        have ek := kOf_pair pr
        obtain ⟨t, b, e1, e2, e3⟩ := pr
        refine ⟨t, b, e1, by rw [ek]; exact e2, ?_⟩
        rw [ek, e3]
        simp only [kw, List.map_map]
        rfl
      · obtain ⟨zs, a4, so, me⟩ := sorted_gives a3 nd o1 o2
        have tl : ys.length ≤ 1000 := by have := o2.len; have := a3.length; omega
        refine ⟨p1, rfl, ⟨_, SqL.of upd_same⟩, fun D2 hD2 => ?_⟩
        have D2p : D2 ≠ p1 := fun z => by rw [z, upd_same] at hD2; cases hD2
        have hD3 : H3 D2 = none := by rwa [upd_ne D2p] at hD2
        refine lc_list (K := K) (a := p1) (xs := ys) (fun i H5 => Same H3 H5 ∧ H5 p1 = some (.lst ys) ∧ ∃ rs, H5 D2 = some (.lst rs) ∧ A2 (fun v w => DV H5 v (wd w)) rs (zs.take i)) ⟨(Same.upd hp1).trans (Same.upd hD2), ?_, [], upd_same, .nil⟩ (fun _ H5 _ h => SqL.of h.2.1) (fun i x H5 hx h => ?_) (fun H5 h => ?_)
        · rw [upd_ne (Ne.symm D2p), upd_same]
        · obtain ⟨s5, h5, rs, hrs, a5⟩ := h
          obtain ⟨w0, hw0, pr⟩ := a4.get hx
          obtain ⟨t, b, rfl, e2, e3⟩ := pr
          refine ⟨rfl, ?_⟩
          simp only [tYes, if_true]
          refine ⟨_, rfl, t, _, 1, _, rfl, rfl, SqT.of (s5 _ _ e2), rfl, rs, hrs, ?_, ?_, ?_, _, upd_same, ?_⟩
          · have := a5.length
            have := (List.getElem?_eq_some_iff.mp hx).1
            rw [List.length_take] at *
            exact small1000 (by omega)
          · intro b o e
            rw [upd_ne (ne_of_none e hD3)]; exact s5 b o e
          · rw [upd_ne (Ne.symm D2p)]; exact h5
          · have tp : Tups H5 (upd H5 D2 (.lst (rs ++ [V.ref b]))) := tups_upd fun xs e => by rw [hrs] at e; cases e
            rw [List.take_succ, hw0]
            exact (a5.mono fun v w h => h.mono tp).append (.cons (.of_word (tp _ _ (s5 _ _ e3))) .nil)
        · obtain ⟨s5, h5, rs, hrs, a5⟩ := h
          have el := a4.length
          rw [el, List.take_length] at a5
          refine k D2 H5 rs zs (s3.trans s5) hrs (dvs_a2 a5) so fun w => ?_
          rw [me w, mem w]
end
end Toy

set_option Elab.async false
set_option linter.all false
set_option maxRecDepth 100000
set_option maxHeartbeats 4000000
namespace Toy
open PySem L2
/-- w begins one of fs, or is empty -/
def Beg (fs : List (List Nat)) (w : List Nat) : Prop := w = [] ∨ ∃ x ∈ fs, w <+: x
def spBeg : Sp := fun vs H Q _ => ∃ (p : Addr) (us : List V) (fs : List (List Nat)), vs = [.ref p] ∧ H p = some (.tup us) ∧ DVs H us (fs.map wd) ∧ (fs.map List.length).sum ≤ 900 ∧
  ∀ (q : Addr) (H' : Hp) (us' : List V) (ws : List (List Nat)), Same H H' → H' q = some (.lst us') → DVs H' us' (ws.map wd) → SortedW ws → (∀ w, w ∈ ws ↔ Beg fs w) → Q (.ref q) H'
section
variable {P : Program} {w : World} {K : PySem.W.Frag} {mg : Str → Option Value} {base : Heap} {CR : Addr}
abbrev s_beginnings_of : Stmt := top 16
theorem sc_beginnings_of : FnScope ["files", "found", "file", "at"] ["files"] (defScope s_beginnings_of) := ⟨rfl, rfl, rfl, by decide +kernel, rfl, by decide +kernel, by decide +kernel⟩

theorem ok_beginnings {f : Addr} {fd : FuncData} (F : Fun K "beginnings_of" "beginnings_of" s_beginnings_of f fd) (T : Txt K mg CR) (C_in_order : CalX P w K mg base CX0 1 "in_order" spOrder) : FnOk P w K mg base CX0 2 f fd ["files"] spBeg := by
  refine F.ok sc_beginnings_of (fun vs H Q E h => ?_) (fun cdv A outer s H vs Q E hr h => ?_)
  · obtain ⟨p, us, fs, rfl, _⟩ := h
    rfl
  obtain ⟨p, us, fs, rfl, hp, hd, hl, k⟩ := h
  have hlen := hd.length
  rw [List.length_map] at hlen
  refine ⟨_, (pss_cons (ps_set (i := 1) sc_beginnings_of.nd rfl (Or.inl rfl) (pe_lst (pa_cons (pe_tup pa_nil) pa_nil)))
    (pss_cons (ps_for PassesOwn.never rfl (pi_tup (pv 0)) (pg_name (i := 2) sc_beginnings_of.nd rfl (Or.inl rfl)) (pss_one (ps_for PassesOwn.never rfl (pi_range1 (by rfl) T.z_range (pa_cons (pe_callB call_len_seq (by rfl) T.z_len b_len (pa_cons (pv 2) pa_nil)) pa_nil)) (pg_name (i := 3) sc_beginnings_of.nd rfl (Or.inl rfl)) (pss_one (ps_expr (pe_bm PySem.F.plainAttrs_list PySem.F.slot_list_append PySem.F.type_list_append mt_append (pv 1) (pa_cons (pe_slice sl_tupB (pv 2) po_none (po_some (pe_op op_add (pv 3) pe_int))) pa_nil)))))))
    (pss_one (ps_ret (pe_u C_in_order hr (by omega) pass0 (pa_cons (pv 1) pa_nil)))))), ?_⟩
  refine ⟨by show 0 ≤ sizeLine; decide, fun e he => ⟨by show 1 ≤ sizeLine; decide, fun d hdn => ?_⟩⟩
  have se : Same H (upd (upd H e (.tup [])) d (.lst [V.ref e])) := (Same.upd he).trans (Same.upd hdn)
  have Hd : H d = none := by
    rw [upd_ne (fun z => by rw [z, upd_same] at hdn; cases hdn)] at hdn
    exact hdn
  have ed : e ≠ d := fun z => by rw [← z, upd_same] at hdn; cases hdn
  refine ⟨_, rfl, p, rfl, ⟨_, SqT.of (se _ _ hp)⟩, for_tup (K := K) (a := p) (xs := us) (fun i σ H' => Same H H' ∧ (∃ g2 g3, σ = [some (.ref p), some (.ref d), g2, g3]) ∧ ∃ gs ts, H' d = some (.lst ts) ∧ A2 (fun v w => DV H' v (wd w)) ts gs ∧ gs.length = 1 + ((fs.take i).map List.length).sum ∧ ∀ w, w ∈ gs ↔ Beg (fs.take i) w)
    ⟨se, ⟨_, _, rfl⟩, [[]], _, upd_same, .cons (.of_word (by rw [upd_ne ed, upd_same]; rfl)) .nil, by simp, fun w => by simp [Beg]⟩ (fun i σ H' _ h => SqT.of (h.1 _ _ hp)) (fun i x σ H' hx h => ?_) (fun σ H' h => ?_)⟩
  · obtain ⟨s1, ⟨g2, g3, rfl⟩, gs, ts, hts, a1, gl, mem⟩ := h
    obtain ⟨q, hq, dv⟩ := hd.get hx
    rw [List.getElem?_map] at hq
    obtain ⟨f0, hf, rfl⟩ := Option.map_eq_some_iff.mp hq
    obtain ⟨a, rfl, ha⟩ := dv.word
    have tk : fs.take (i + 1) = fs.take i ++ [f0] := by rw [List.take_succ, hf]; rfl
    have small : ((fs.take (i + 1)).map List.length).sum ≤ 900 := by
      have e1 : (fs.map List.length).sum = ((fs.take (i + 1)).map List.length).sum + ((fs.drop (i + 1)).map List.length).sum := by
        rw [← List.sum_append, ← List.map_append, List.take_append_drop]
      omega
    refine ⟨_, rfl, a, _, rfl, .inr (SqT.of (s1 _ _ ha)), _, rfl, ?_⟩
    have eN : ((((f0.map fun c : Nat => V.int (c : Int)).length : Nat) : Int)).toNat = f0.length := by simp
    have fl : f0.length ≤ 900 := by
      rw [tk, List.map_append, List.sum_append] at small
      simp at small; omega
    refine ⟨by rw [List.length_map]; omega, by rw [List.length_map]; omega, ?_⟩
    refine for_range (lo := 0) (n := (((f0.map fun c : Nat => V.int (c : Int)).length : Nat) : Int).toNat) (fun j σ H2 => Same H H2 ∧ (∃ g3, σ = [some (.ref p), some (.ref d), some (.ref a), g3]) ∧ ∃ gs ts, H2 d = some (.lst ts) ∧ A2 (fun v w => DV H2 v (wd w)) ts gs ∧ gs.length = 1 + ((fs.take i).map List.length).sum + j ∧ ∀ w, w ∈ gs ↔ Beg (fs.take i) w ∨ ∃ m, m < j ∧ w = f0.take (m + 1))
      ⟨s1, ⟨_, rfl⟩, gs, ts, hts, a1, by omega, fun w => by simp [mem w]⟩ (fun j σ H2 hj h => ?_) (fun σ H2 h => ?_)
    · obtain ⟨s2, ⟨g3, rfl⟩, gs, ts, hts, a2, gl2, mem2⟩ := h
      rw [eN] at hj
      refine ⟨_, rfl, .inl ⟨rfl, _, SqL.of hts⟩, ?_⟩
      refine ⟨_, rfl, _, rfl, _, _, rfl, rfl, _, rfl, a, _, rfl, s2 _ _ ha, fun b H3 s3 hb => ?_⟩
      refine ⟨d, ts, _, rfl, rfl, s3 _ _ hts, ?_, ?_⟩
      · have := a2.length
        have e1 : ((fs.take (i + 1)).map List.length).sum = ((fs.take i).map List.length).sum + f0.length := by
          rw [tk, List.map_append, List.sum_append]; simp
        exact small1000 (by omega)
      · have hb' : H3 b = some (.tup ((f0.take (j + 1)).map fun c : Nat => V.int (c : Int))) := by
          rw [hb, show (0 : Int) + (j : Int) + 1 = ((j + 1 : Nat) : Int) by omega, cutV_to, List.map_take]
        have tp : Tups H3 (upd H3 d (.lst (ts ++ [V.ref b]))) := tups_upd fun xs e => by rw [s3 _ _ hts] at e; cases e
        refine ⟨fun c o e => ?_, ⟨_, rfl⟩, gs ++ [f0.take (j + 1)], _, upd_same, (a2.mono fun v w h => (h.mono (same_tp s3)).mono tp).append (.cons (.of_word (tp _ _ hb')) .nil), by rw [List.length_append, List.length_singleton]; omega, fun w => ?_⟩
        · rw [upd_ne (ne_of_none e Hd)]
          exact s3 _ _ (s2 _ _ e)
        · rw [List.mem_append, mem2 w, List.mem_singleton]
          constructor
          · rintro ((h | ⟨m, hm, h⟩) | h)
            · exact .inl h
            · exact .inr ⟨m, by omega, h⟩
            · exact .inr ⟨j, by omega, h⟩
          · rintro (h | ⟨m, hm, h⟩)
            · exact .inl (.inl h)
            · by_cases c : m = j
              · subst c; exact .inr h
              · exact .inl (.inr ⟨m, by omega, h⟩)
    · obtain ⟨s2, ⟨g3, rfl⟩, gs, ts, hts, a2, gl2, mem2⟩ := h
      rw [eN] at gl2 mem2
      refine ⟨s2, ⟨_, _, rfl⟩, gs, ts, hts, a2, ?_, fun w => ?_⟩
      · rw [tk, List.map_append, List.sum_append]
        simp [List.map_take] at gl2 ⊢; omega
      · rw [mem2 w, tk]
        unfold Beg
        simp only [List.mem_append, List.mem_singleton]
        constructor
        · rintro ((h | ⟨x, hx, h⟩) | ⟨m, hm, rfl⟩)
          · exact .inl h
          · exact .inr ⟨x, .inl hx, h⟩
          · exact .inr ⟨f0, .inr rfl, List.take_prefix _ _⟩
        · rintro (h | ⟨x, hx | rfl, h⟩)
          · exact .inl (.inl h)
          · exact .inl (.inr ⟨x, hx, h⟩)
          · by_cases e : w = []
            · exact .inl (.inl e)
            · refine .inr ⟨w.length - 1, ?_, ?_⟩
              · have := h.length_le
                have : w.length ≠ 0 := fun z => e (List.length_eq_zero_iff.mp z)
                omega
              · have : w.length ≠ 0 := fun z => e (List.length_eq_zero_iff.mp z)
                rw [show w.length - 1 + 1 = w.length by omega]
                exact (List.prefix_iff_eq_take.mp h)
  · obtain ⟨s1, ⟨g2, g3, rfl⟩, gs, ts, hts, a1, gl, mem⟩ := h
    rw [hlen, List.take_length] at gl mem
    refine ⟨_, rfl, d, ts, gs, rfl, hts, dvs_a2 a1, by omega, fun q H2 us' ws s2 hq hv so me => k q H2 us' ws (s1.trans s2) hq hv so fun w => by rw [me w, mem w]⟩
end
end Toy

set_option Elab.async false
set_option linter.all false
set_option maxRecDepth 100000
set_option maxHeartbeats 4000000
namespace Toy
open PySem L2
/-! the watcher that grows -/
abbrev Lk := Nat → Nat → Option Nat
def run (k : Lk) : Nat → List Nat → Option Nat
  | r, [] => some r
  | r, c :: w => (k r c).bind fun s => run k s w
def rwN (k : Lk) (w : List Nat) : Nat := (run k 0 w).getD 0
def Lk.put (k : Lk) (r c v : Nat) : Lk := fun r' c' => if r' = r ∧ c' = c then some v else k r' c'
def Lk.le (k k' : Lk) : Prop := ∀ r c s, k r c = some s → k' r c = some s
theorem run_le {k k' : Lk} (h : k.le k') : ∀ (w : List Nat) (r s : Nat), run k r w = some s → run k' r w = some s
  | [], r, s, e => e
  | c :: w, r, s, e => by
    unfold run at e ⊢
    cases g : k r c with
    | none => rw [g] at e; cases e
    | some t =>
      rw [g] at e
      rw [h r c t g]
      exact run_le h w t s e
theorem run_snoc (k : Lk) : ∀ (w : List Nat) (c r : Nat), run k r (w ++ [c]) = (run k r w).bind fun s => k s c
  | [], c, r => by
    simp only [List.nil_append, run, Option.bind_some]
    cases k r c <;> rfl
  | d :: w, c, r => by
    simp only [List.cons_append, run]
    cases g : k r d with
    | none => rfl
    | some t => simp only [Option.bind_some]; exact run_snoc k w c t
theorem rw_le {k k' : Lk} (h : k.le k') {w : List Nat} (d : (run k 0 w).isSome = true) : rwN k' w = rwN k w := by
  obtain ⟨s, e⟩ := Option.isSome_iff_exists.mp d
  unfold rwN
  rw [e, run_le h w 0 s e]
theorem put_le {k : Lk} {r c v : Nat} (h : k r c = none ∨ k r c = some v) : k.le (k.put r c v) := by
  intro r' c' s e
  unfold Lk.put
  by_cases q : r' = r ∧ c' = c
  · obtain ⟨rfl, rfl⟩ := q
    rw [if_pos ⟨rfl, rfl⟩]
    rcases h with h | h
    · rw [h] at e; cases e
    · rw [h] at e; exact e
  · rw [if_neg q]; exact e
/-- the first of ws that is in R and leads to r -/
def fstW (k : Lk) (ws R : List (List Nat)) (r : Nat) : Option (List Nat) := ws.find? fun w => decide (w ∈ R) && decide (rwN k w = r)
def usd (k : Lk) (ws : List (List Nat)) : Nat := (ws.map fun w => rwN k w + 1).foldl max 0
def gv (k : Lk) (w : List Nat) : List Key × V := (ky w, .int ((rwN k w : Nat) : Int))
def lkOk (H : Hp) (l : Addr) (n : Nat) (k : Lk) : Prop := ∃ m, H l = some (.dT m) ∧ m.length ≤ n ∧ ∀ r c : Nat, valV m [Sum.inl (r : Int), Sum.inl (c : Int)] = (k r c).map fun v => V.int ((v : Nat) : Int)
def atOk (H : Hp) (d : Addr) (k : Lk) (ws R : List (List Nat)) : Prop := ∃ m, H d = some (.dK m) ∧ m.length ≤ ws.length ∧ ∀ r : Nat, match fstW k ws R r with
  | none => valV m (Sum.inl (r : Int)) = none
  | some w => ∃ v, valV m (Sum.inl (r : Int)) = some v ∧ DV H v (wd w)
structure Ad where
  (p dx g l r w : Addr)
def Ad.fp (a : Ad) : List Addr := [a.p, a.g, a.l, a.r, a.w]
abbrev rfs (g l u r w : V) : List (Str × V) := [(("given" : Str), g), (("links" : Str), l), (("used" : Str), u), (("right_at" : Str), r), (("wrong_at" : Str), w)]
abbrev rf (a : Ad) (u : Nat) : List (Str × V) := rfs (.ref a.g) (.ref a.l) (.int ((u : Nat) : Int)) (.ref a.r) (.ref a.w)
structure SI (CR : Addr) (H : Hp) (a : Ad) (k : Lk) (ws R W : List (List Nat)) : Prop where
  obj : H a.p = some (.ins CR a.dx (rf a (usd k ws)))
  giv : H a.g = some (.dT (ws.map (gv k)))
  all : ∀ w ∈ ws, (run k 0 w).isSome = true
  nd : ws.Nodup
  few : ws.length ≤ 1000
  lks : lkOk H a.l ws.length k
  ra : atOk H a.r k ws R
  wa : atOk H a.w k ws W
  gl : a.g ≠ a.l
  rw : a.r ≠ a.w
/-- all but these stays -/
def Out (l : List Addr) (H H' : Hp) : Prop := ∀ b o, b ∉ l → H b = some o → H' b = some o
theorem n12 : ("given" : Str) ≠ "links" := by decide +kernel
theorem n13 : ("given" : Str) ≠ "used" := by decide +kernel
theorem n14 : ("given" : Str) ≠ "right_at" := by decide +kernel
theorem n15 : ("given" : Str) ≠ "wrong_at" := by decide +kernel
theorem n23 : ("links" : Str) ≠ "used" := by decide +kernel
theorem n24 : ("links" : Str) ≠ "right_at" := by decide +kernel
theorem n25 : ("links" : Str) ≠ "wrong_at" := by decide +kernel
theorem n34 : ("used" : Str) ≠ "right_at" := by decide +kernel
theorem n35 : ("used" : Str) ≠ "wrong_at" := by decide +kernel
theorem n45 : ("right_at" : Str) ≠ "wrong_at" := by decide +kernel
abbrev fG (v : V) : Str × V := (("given" : Str), v)
abbrev fL (v : V) : Str × V := (("links" : Str), v)
abbrev fU (v : V) : Str × V := (("used" : Str), v)
abbrev fR (v : V) : Str × V := (("right_at" : Str), v)
abbrev fW (v : V) : Str × V := (("wrong_at" : Str), v)
theorem pi2 {g l : V} : putF "links" l (putF "given" g []) = [fG g, fL l] := by simp [putF, n12]
theorem pi3 {g l u : V} : putF "used" u [fG g, fL l] = [fG g, fL l, fU u] := by simp [putF, n13, n23]
theorem pi4 {g l u r : V} : putF "right_at" r [fG g, fL l, fU u] = [fG g, fL l, fU u, fR r] := by simp [putF, n14, n24, n34]
theorem pi5 {g l u r w : V} : putF "wrong_at" w [fG g, fL l, fU u, fR r] = [fG g, fL l, fU u, fR r, fW w] := by simp [putF, n15, n25, n35, n45]
theorem pG {g l u r w v : V} : putF "given" v [fG g, fL l, fU u, fR r, fW w] = [fG v, fL l, fU u, fR r, fW w] := by simp [putF]
theorem pL {g l u r w v : V} : putF "links" v [fG g, fL l, fU u, fR r, fW w] = [fG g, fL v, fU u, fR r, fW w] := by simp [putF, n12]
theorem pU {g l u r w v : V} : putF "used" v [fG g, fL l, fU u, fR r, fW w] = [fG g, fL l, fU v, fR r, fW w] := by simp [putF, n13, n23]
theorem pR {g l u r w v : V} : putF "right_at" v [fG g, fL l, fU u, fR r, fW w] = [fG g, fL l, fU u, fR v, fW w] := by simp [putF, n14, n24, n34]
theorem pW {g l u r w v : V} : putF "wrong_at" v [fG g, fL l, fU u, fR r, fW w] = [fG g, fL l, fU u, fR r, fW v] := by simp [putF, n15, n25, n35, n45]
theorem lkG {g l u r w : V} : List.lookup ("given" : Str) [fG g, fL l, fU u, fR r, fW w] = some g := by simp [List.lookup]
theorem lkL {g l u r w : V} : List.lookup ("links" : Str) [fG g, fL l, fU u, fR r, fW w] = some l := by simp [List.lookup, show (("links" : Str) == "given") = false by decide +kernel]
theorem lkU {g l u r w : V} : List.lookup ("used" : Str) [fG g, fL l, fU u, fR r, fW w] = some u := by simp [List.lookup, show (("used" : Str) == "given") = false by decide +kernel, show (("used" : Str) == "links") = false by decide +kernel]
theorem lkR {g l u r w : V} : List.lookup ("right_at" : Str) [fG g, fL l, fU u, fR r, fW w] = some r := by simp [List.lookup, show (("right_at" : Str) == "given") = false by decide +kernel, show (("right_at" : Str) == "links") = false by decide +kernel, show (("right_at" : Str) == "used") = false by decide +kernel]
theorem lkW {g l u r w : V} : List.lookup ("wrong_at" : Str) [fG g, fL l, fU u, fR r, fW w] = some w := by simp [List.lookup, show (("wrong_at" : Str) == "given") = false by decide +kernel, show (("wrong_at" : Str) == "links") = false by decide +kernel, show (("wrong_at" : Str) == "used") = false by decide +kernel, show (("wrong_at" : Str) == "right_at") = false by decide +kernel]
def spInit (CR : Addr) : Sp := fun vs H Q _ => ∃ p dx, vs = [.ref p] ∧ H p = some (.ins CR dx []) ∧ ∀ (a : Ad) (H' : Hp), a.p = p → (∀ R W, SI CR H' a (fun _ _ => none) [] R W) → Keep p H H' → (∀ b ∈ a.fp, b = p ∨ H b = none) → Q .non H'
section
variable {P : Program} {w : World} {K : PySem.W.Frag} {mg : Str → Option Value} {base : Heap} {CR : Addr}
abbrev s_r_init : Stmt := inClass (top 17) 0
theorem sc_r_init : FnScope ["self"] ["self"] (defScope s_r_init) := ⟨rfl, rfl, rfl, by decide +kernel, rfl, by decide +kernel, by decide +kernel⟩

theorem ok_r_init {f : Addr} {fd : FuncData} (F : Fun K "__init__" "RowState.__init__" s_r_init f fd) (T : Txt K mg CR) : FnOk P w K mg base CX0 1 f fd ["self"] (spInit CR) := by
  refine F.ok sc_r_init (fun vs H Q E h => ?_) (fun cdv A outer s H vs Q E hr h => ?_)
  · obtain ⟨p, dx, rfl, _⟩ := h
    rfl
  obtain ⟨p, dx, rfl, hp, k⟩ := h
  refine ⟨_, (pss_cons (ps_fld (pv 0) pe_dnewT rfl)
    (pss_cons (ps_fld (pv 0) pe_dnewT rfl)
    (pss_cons (ps_fld (pv 0) pe_int rfl)
    (pss_cons (ps_fld (pv 0) pe_dnewK rfl)
    (pss_one (ps_fld (pv 0) pe_dnewK rfl)))))), ?_⟩
  intro g hg
  have gp : g ≠ p := fun z => by rw [z, hp] at hg; cases hg
  refine ⟨_, rfl, p, CR, dx, _, rfl, by rw [upd_ne (Ne.symm gp)]; exact hp, T.cl, T.nG, (by show 0 < 1000; decide), fun l hl => ?_⟩
  have lp : l ≠ p := fun z => by rw [z, upd_same] at hl; cases hl
  have lg : l ≠ g := fun z => by rw [z, upd_ne gp, upd_same] at hl; cases hl
  refine ⟨_, rfl, p, CR, dx, _, rfl, by rw [upd_ne (Ne.symm lp), upd_same], T.cl, T.nL, (by show 1 < 1000; decide), ?_⟩
  rw [pi2]
  refine ⟨_, rfl, p, CR, dx, _, rfl, upd_same, T.cl, T.nU, (by show 2 < 1000; decide), fun r hr' => ?_⟩
  rw [pi3] at hr' ⊢
  have rp : r ≠ p := fun z => by rw [z, upd_same] at hr'; cases hr'
  refine ⟨_, rfl, p, CR, dx, _, rfl, by rw [upd_ne (Ne.symm rp), upd_same], T.cl, T.nR, (by show 3 < 1000; decide), fun w hw => ?_⟩
  rw [pi4] at hw ⊢
  have wp : w ≠ p := fun z => by rw [z, upd_same] at hw; cases hw
  refine ⟨_, rfl, p, CR, dx, _, rfl, by rw [upd_ne (Ne.symm wp), upd_same], T.cl, T.nW, (by show 4 < 1000; decide), ?_⟩
  rw [pi5]
  have hl0 : H l = none := by rw [upd_ne lp, upd_ne lg] at hl; exact hl
  have rl : r ≠ l := fun z => by rw [z, upd_ne lp, upd_ne lp, upd_same] at hr'; cases hr'
  have rg : r ≠ g := fun z => by rw [z, upd_ne gp, upd_ne gp, upd_ne (Ne.symm lg), upd_ne gp, upd_same] at hr'; cases hr'
  have hr0 : H r = none := by rw [upd_ne rp, upd_ne rp, upd_ne rl, upd_ne rp, upd_ne rg] at hr'; exact hr'
  have wr : w ≠ r := fun z => by rw [z, upd_ne rp, upd_same] at hw; cases hw
  have wl : w ≠ l := fun z => by rw [z, upd_ne lp, upd_ne (Ne.symm rl), upd_ne lp, upd_ne lp, upd_same] at hw; cases hw
  have wg : w ≠ g := fun z => by rw [z, upd_ne gp, upd_ne (Ne.symm rg), upd_ne gp, upd_ne gp, upd_ne (Ne.symm lg), upd_ne gp, upd_same] at hw; cases hw
  have hw0 : H w = none := by rw [upd_ne wp, upd_ne wr, upd_ne wp, upd_ne wp, upd_ne wl, upd_ne wp, upd_ne wg] at hw; exact hw
  refine k ⟨p, dx, g, l, r, w⟩ _ rfl (fun R W => ⟨upd_same, ?_, by simp, List.nodup_nil, by simp, ⟨[], ?_, by simp, fun _ _ => rfl⟩, ⟨[], ?_, by simp, fun _ => rfl⟩, ⟨[], ?_, by simp, fun _ => rfl⟩, Ne.symm lg, Ne.symm wr⟩) (fun b o nb e => ?_) (fun b hb => ?_)
  · simp only [upd_ne gp, upd_ne (Ne.symm wg), upd_ne (Ne.symm rg), upd_ne (Ne.symm lg), upd_same]
    rfl
  · simp only [upd_ne lp, upd_ne (Ne.symm wl), upd_ne (Ne.symm rl), upd_same]
  · simp only [upd_ne rp, upd_ne (Ne.symm wr), upd_same]
  · simp only [upd_ne wp, upd_same]
  · simp only [upd_ne nb, upd_ne (ne_of_none e hw0), upd_ne (ne_of_none e hr0), upd_ne (ne_of_none e hl0), upd_ne (ne_of_none e hg)]
    exact e
  · simp only [Ad.fp, List.mem_cons, List.not_mem_nil, or_false] at hb
    rcases hb with rfl | rfl | rfl | rfl | rfl
    · exact .inl rfl
    · exact .inr hg
    · exact .inr hl0
    · exact .inr hr0
    · exact .inr hw0
end
end Toy

set_option Elab.async false
set_option linter.all false
set_option maxRecDepth 100000
set_option maxHeartbeats 4000000
namespace Toy
open PySem L2
def lst (w : List Nat) : Nat := w.getLast?.getD 0
def forcedN (k : Lk) (w : List Nat) : Option Nat := if w = [] then some 0 else k (rwN k w.dropLast) (lst w)
def optV : Option Nat → V
  | none => .non
  | some s => .int ((s : Nat) : Int)
def spForced (CR : Addr) : Sp := fun vs H Q _ => ∃ a k ws R W v w, vs = [.ref a.p, v] ∧ SI CR H a k ws R W ∧ DV H v (wd w) ∧ (w = [] ∨ w.dropLast ∈ ws) ∧ ∀ H', Same H H' → Q (optV (forcedN k w)) H'
theorem val_given {k : Lk} {ws : List (List Nat)} {w : List Nat} (h : w ∈ ws) : valV (ws.map (gv k)) (ky w) = some (.int ((rwN k w : Nat) : Int)) := by
  induction ws with
  | nil => cases h
  | cons u ws ih =>
    rw [List.map_cons]
    by_cases e : u = w
    · subst e; exact valV_pos rfl
    · rw [valV_neg (fun z => e (ky_inj z))]
      exact ih ((List.mem_cons.mp h).resolve_left fun z => e z.symm)
theorem val_given_no {k : Lk} {ws : List (List Nat)} {w : List Nat} (h : w ∉ ws) : valV (ws.map (gv k)) (ky w) = none := by
  induction ws with
  | nil => rfl
  | cons u ws ih =>
    rw [List.map_cons, valV_neg (fun z => h (by rw [← ky_inj z]; exact List.mem_cons_self))]
    exact ih fun m => h (List.mem_cons_of_mem _ m)
theorem word_split {w : List Nat} (h : w ≠ []) : w = w.dropLast ++ [lst w] := by
  unfold lst
  rw [List.getLast?_eq_some_getLast h]
  exact (List.dropLast_concat_getLast h).symm
theorem at_last {w : List Nat} (h : w ≠ []) : atI (w.map fun c : Nat => V.int (c : Int)) (-1) = some (.int ((lst w : Nat) : Int)) := by
  have e := word_split h
  generalize w.dropLast = u at e
  generalize lst w = c at e
  subst e
  unfold atI ixN
  rw [List.map_append, List.length_append, List.length_map]
  simp
  rw [if_pos (by omega)]
  show (List.map _ u ++ [_])[(-1 + ((u.length : Int) + 1)).toNat]? = _
  rw [show (-1 + ((u.length : Int) + 1)).toNat = u.length by omega, List.getElem?_append_right (by simp)]
  simp
section
variable {P : Program} {w : World} {K : PySem.W.Frag} {mg : Str → Option Value} {base : Heap} {CR : Addr}
abbrev s_r_forced : Stmt := inClass (top 17) 2
theorem sc_r_forced : FnScope ["self", "word"] ["self", "word"] (defScope s_r_forced) := ⟨rfl, rfl, rfl, by decide +kernel, rfl, by decide +kernel, by decide +kernel⟩

theorem ok_r_forced {f : Addr} {fd : FuncData} (F : Fun K "forced" "RowState.forced" s_r_forced f fd) (T : Txt K mg CR) : FnOk P w K mg base CX0 1 f fd ["self", "word"] (spForced CR) := by
  refine F.ok sc_r_forced (fun vs H Q E h => ?_) (fun cdv A outer s H vs Q E hr h => ?_)
  · obtain ⟨a, k, ws, R, W, v, w, rfl, _⟩ := h
    rfl
  obtain ⟨a, lk, ws, R, W, v, w, rfl, S, hv, hw, k⟩ := h
  obtain ⟨q, rfl, hq⟩ := hv.word
  refine ⟨_, (pss_cons (ps_if (pt_not (pt_truth (pv 1) (by intro _; rfl))) (pss_one (ps_ret pe_int)) pss_nil)
    (pss_one (ps_ret (pe_dget1 (hu_b hr) (pe_fld (pv 0) rfl) (pe_tup (pa_cons (pe_dget (hu_b hr) (pe_fld (pv 0) rfl) (pe_slice sl_tupB (pv 1) po_none (po_some (pe_un un_neg pe_int))) (fun _ _ => rfl)) (pa_cons (pe_ix ix_tup (pv 1) (pe_un un_neg pe_int) (fun _ _ => rfl)) pa_nil))) ⟨by rfl, by rfl, by rfl, by rfl⟩)))), ?_⟩
  refine ⟨_, rfl, _, .inr (.inl ⟨_, SqT.of hq, rfl⟩), ?_⟩
  by_cases hw0 : w = []
  · subst hw0
    have e : forcedN lk [] = some 0 := rfl
    refine ifT rfl ?_
    have := k H (Same.refl H)
    rw [e] at this
    exact this
  · have hne : (w.map fun c : Nat => V.int (c : Int)).isEmpty = false := by
      cases w with
      | nil => exact absurd rfl hw0
      | cons c r => rfl
    refine ifF (by rw [hne]; decide) ?_
    have hpre := hw.resolve_left hw0
    obtain ⟨m, hm, ml, mv⟩ := S.lks
    refine ⟨_, rfl, a.p, CR, a.dx, _, _, rfl, S.obj, T.cl, T.nL, lkL, a.l, rfl, .inr ⟨m, .inl hm⟩, ?_⟩
    refine ⟨_, rfl, a.p, CR, a.dx, _, _, rfl, S.obj, T.cl, T.nG, lkG, _, rfl, _, rfl, _, rfl, q, _, rfl, hq, fun b H1 s1 hb => ?_⟩
    have hb' : H1 b = some (.tup ((ky w.dropLast).map kV)) := by
      rw [hb, ky_vs, show (-(1 : Int)) = -1 by rfl, cutV_last, List.map_dropLast]
    have dg := DGet.t (s1 _ _ S.giv) hb'
    rw [val_given hpre] at dg
    refine ⟨a.g, _, rfl, dg, ?_⟩
    refine ⟨_, rfl, _, rfl, q, _, _, _, rfl, rfl, SqT.of (s1 _ _ hq), at_last hw0, by show 2 ≤ sizeLine; decide, fun t ht => ?_⟩
    have kt : upd H1 t (.tup [.int ((rwN lk w.dropLast : Nat) : Int), .int ((lst w : Nat) : Int)]) t = some (.tup (([Sum.inl ((rwN lk w.dropLast : Nat) : Int), Sum.inl ((lst w : Nat) : Int)] : List Key).map kV)) := upd_same
    have hm1 := s1 _ _ hm
    refine ⟨_, DGet.t (by rw [upd_ne (ne_of_none hm1 ht)]; exact hm1) kt, ?_⟩
    rw [mv]
    have e : forcedN lk w = lk (rwN lk w.dropLast) (lst w) := by unfold forcedN; rw [if_neg hw0]
    have := k (upd H1 t (.tup [.int ((rwN lk w.dropLast : Nat) : Int), .int ((lst w : Nat) : Int)])) (s1.trans (Same.upd ht))
    rw [e] at this
    cases g : lk (rwN lk w.dropLast) (lst w) with
    | none => rw [g] at this; exact this
    | some z => rw [g] at this; exact this
end
end Toy

set_option Elab.async false
set_option linter.all false
set_option maxRecDepth 100000
set_option maxHeartbeats 4000000
namespace Toy
open PySem L2
def atM (H : Hp) (m : List (Key × V)) (k : Lk) (ws R : List (List Nat)) : Prop := m.length ≤ ws.length ∧ ∀ r : Nat, match fstW k ws R r with
  | none => valV m (Sum.inl (r : Int)) = none
  | some w => ∃ v, valV m (Sum.inl (r : Int)) = some v ∧ DV H v (wd w)
theorem atOk_iff {H : Hp} {d : Addr} {k : Lk} {ws R : List (List Nat)} : atOk H d k ws R ↔ ∃ m, H d = some (.dK m) ∧ atM H m k ws R := Iff.rfl
theorem atM.mono {H H' : Hp} (t : Tups H H') {m : List (Key × V)} {k : Lk} {ws R : List (List Nat)} (h : atM H m k ws R) : atM H' m k ws R := by
  refine ⟨h.1, fun r => ?_⟩
  have := h.2 r
  cases e : fstW k ws R r with
  | none => rw [e] at this; exact this
  | some w => rw [e] at this; obtain ⟨v, h1, h2⟩ := this; exact ⟨v, h1, h2.mono t⟩
theorem atM.is {H : Hp} {m : List (Key × V)} {k : Lk} {ws R : List (List Nat)} (h : atM H m k ws R) (r : Nat) : (valV m (Sum.inl (r : Int))).isSome = (fstW k ws R r).isSome := by
  have := h.2 r
  cases e : fstW k ws R r with
  | none => rw [e] at this; have this : valV m (Sum.inl (r : Int)) = none := this; rw [this]; rfl
  | some w => rw [e] at this; obtain ⟨v, h1, h2⟩ := this; rw [h1]; rfl
theorem find_congr {α : Type} {p q : α → Bool} : ∀ {l : List α}, (∀ x ∈ l, p x = q x) → l.find? p = l.find? q
  | [], _ => rfl
  | a :: l, h => by
    rw [List.find?_cons, List.find?_cons, h a List.mem_cons_self, find_congr fun x m => h x (List.mem_cons_of_mem _ m)]
theorem fstW_snoc {k k' : Lk} {ws R : List (List Nat)} {w : List Nat} {s : Nat} (le : k.le k') (all : ∀ u ∈ ws, (run k 0 u).isSome = true) (hs : rwN k' w = s) (r : Nat) :
    fstW k' (ws ++ [w]) R r = (fstW k ws R r).or (if w ∈ R ∧ s = r then some w else none) := by
  unfold fstW
  rw [List.find?_append]
  congr 1
  · exact find_congr fun u m => by rw [rw_le le (all u m)]
  · rw [List.find?_cons, List.find?_nil, hs]
    by_cases h : w ∈ R ∧ s = r
    · simp [h.1, h.2]
    · rw [if_neg h]
      have : (decide (w ∈ R) && decide (s = r)) = false := by
        rw [Bool.and_eq_false_iff]
        by_cases c : w ∈ R
        · exact .inr (decide_eq_false fun q => h ⟨c, q⟩)
        · exact .inl (decide_eq_false c)
      rw [this]
theorem atM_step {H : Hp} {m : List (Key × V)} {k k' : Lk} {ws R : List (List Nat)} {w : List Nat} {s : Nat} {v : V} (h : atM H m k ws R) (le : k.le k') (all : ∀ u ∈ ws, (run k 0 u).isSome = true) (hs : rwN k' w = s) (hv : DV H v (wd w)) :
    (w ∈ R ∧ (valV m (Sum.inl (s : Int))).isSome = false → atM H (putK m (Sum.inl (s : Int)) v) k' (ws ++ [w]) R) ∧ (¬ (w ∈ R ∧ (valV m (Sum.inl (s : Int))).isSome = false) → atM H m k' (ws ++ [w]) R) := by
  refine ⟨fun c => ⟨?_, fun r => ?_⟩, fun c => ⟨?_, fun r => ?_⟩⟩
  · have := length_putK m (Sum.inl (s : Int)) v
    have := h.1
    rw [List.length_append, List.length_singleton]; omega
  · rw [fstW_snoc le all hs, valV_put]
    have hr := h.2 r
    have is := h.is r
    by_cases e : s = r
    · subst e
      rw [c.2] at is
      have fn : fstW k ws R s = none := Option.isSome_eq_false_iff.mp is.symm |> fun z => by simpa using z
      rw [fn, if_pos ⟨c.1, rfl⟩]
      exact ⟨v, by rw [if_pos rfl], hv⟩
    · rw [if_neg (fun z => e z.2)]
      have ne : ¬ (Sum.inl (r : Int) : Key) = Sum.inl (s : Int) := fun z => e (by injection z with z; omega)
      rw [if_neg ne]
      cases f : fstW k ws R r with
      | none => rw [f] at hr; exact hr
      | some u => rw [f] at hr; exact hr
  · have := h.1
    rw [List.length_append]; omega
  · rw [fstW_snoc le all hs]
    have hr := h.2 r
    have is := h.is r
    cases f : fstW k ws R r with
    | some u => rw [f] at hr; exact hr
    | none =>
      rw [f] at hr is
      have no : ¬ (w ∈ R ∧ s = r) := fun z => c ⟨z.1, by rw [z.2]; exact is⟩
      rw [if_neg no]
      exact hr
/-- what stands at the state's addresses -/
structure Raw (CR : Addr) (H : Hp) (a : Ad) (u : Nat) (G m : List (List Key × V)) (mr mw : List (Key × V)) : Prop where
  obj : H a.p = some (.ins CR a.dx (rf a u))
  giv : H a.g = some (.dT G)
  lks : H a.l = some (.dT m)
  ra : H a.r = some (.dK mr)
  wa : H a.w = some (.dK mw)
  gl : a.g ≠ a.l
  rw : a.r ≠ a.w
section
variable {CR : Addr} {H : Hp} {a : Ad} {u : Nat} {G m : List (List Key × V)} {mr mw : List (Key × V)}
theorem Raw.pg (h : Raw CR H a u G m mr mw) : a.p ≠ a.g := ne_of h.obj h.giv (fun z => nomatch z)
theorem Raw.pl (h : Raw CR H a u G m mr mw) : a.p ≠ a.l := ne_of h.obj h.lks (fun z => nomatch z)
theorem Raw.pr (h : Raw CR H a u G m mr mw) : a.p ≠ a.r := ne_of h.obj h.ra (fun z => nomatch z)
theorem Raw.pw (h : Raw CR H a u G m mr mw) : a.p ≠ a.w := ne_of h.obj h.wa (fun z => nomatch z)
theorem Raw.gr (h : Raw CR H a u G m mr mw) : a.g ≠ a.r := ne_of h.giv h.ra (fun z => nomatch z)
theorem Raw.gw (h : Raw CR H a u G m mr mw) : a.g ≠ a.w := ne_of h.giv h.wa (fun z => nomatch z)
theorem Raw.lr (h : Raw CR H a u G m mr mw) : a.l ≠ a.r := ne_of h.lks h.ra (fun z => nomatch z)
theorem Raw.lw (h : Raw CR H a u G m mr mw) : a.l ≠ a.w := ne_of h.lks h.wa (fun z => nomatch z)
theorem Raw.setG (h : Raw CR H a u G m mr mw) (G' : List (List Key × V)) : Raw CR (upd H a.g (.dT G')) a u G' m mr mw :=
  ⟨by rw [upd_ne h.pg]; exact h.obj, upd_same, by rw [upd_ne (Ne.symm h.gl)]; exact h.lks, by rw [upd_ne (Ne.symm h.gr)]; exact h.ra, by rw [upd_ne (Ne.symm h.gw)]; exact h.wa, h.gl, h.rw⟩
theorem Raw.setL (h : Raw CR H a u G m mr mw) (m' : List (List Key × V)) : Raw CR (upd H a.l (.dT m')) a u G m' mr mw :=
  ⟨by rw [upd_ne h.pl]; exact h.obj, by rw [upd_ne h.gl]; exact h.giv, upd_same, by rw [upd_ne (Ne.symm h.lr)]; exact h.ra, by rw [upd_ne (Ne.symm h.lw)]; exact h.wa, h.gl, h.rw⟩
theorem Raw.setU (h : Raw CR H a u G m mr mw) (v : Nat) : Raw CR (upd H a.p (.ins CR a.dx (rf a v))) a v G m mr mw :=
  ⟨upd_same, by rw [upd_ne (Ne.symm h.pg)]; exact h.giv, by rw [upd_ne (Ne.symm h.pl)]; exact h.lks, by rw [upd_ne (Ne.symm h.pr)]; exact h.ra, by rw [upd_ne (Ne.symm h.pw)]; exact h.wa, h.gl, h.rw⟩
theorem Raw.setR (h : Raw CR H a u G m mr mw) (m' : List (Key × V)) : Raw CR (upd H a.r (.dK m')) a u G m m' mw :=
  ⟨by rw [upd_ne h.pr]; exact h.obj, by rw [upd_ne h.gr]; exact h.giv, by rw [upd_ne h.lr]; exact h.lks, upd_same, by rw [upd_ne (Ne.symm h.rw)]; exact h.wa, h.gl, h.rw⟩
theorem Raw.setW (h : Raw CR H a u G m mr mw) (m' : List (Key × V)) : Raw CR (upd H a.w (.dK m')) a u G m mr m' :=
  ⟨by rw [upd_ne h.pw]; exact h.obj, by rw [upd_ne h.gw]; exact h.giv, by rw [upd_ne h.lw]; exact h.lks, by rw [upd_ne h.rw]; exact h.ra, upd_same, h.gl, h.rw⟩
theorem Raw.same (h : Raw CR H a u G m mr mw) {H' : Hp} (s : Same H H') : Raw CR H' a u G m mr mw := ⟨s _ _ h.obj, s _ _ h.giv, s _ _ h.lks, s _ _ h.ra, s _ _ h.wa, h.gl, h.rw⟩
end
theorem Out.refl {l : List Addr} {H : Hp} : Out l H H := fun _ _ _ e => e
theorem Out.trans {l : List Addr} {H H1 H2 : Hp} (a : Out l H H1) (b : Out l H1 H2) : Out l H H2 := fun c o n e => b c o n (a c o n e)
theorem out_same {l : List Addr} {H H' : Hp} (s : Same H H') : Out l H H' := fun b o _ e => s b o e
theorem out_upd {l : List Addr} {H : Hp} {p : Addr} {o : HO} (h : p ∈ l) : Out l H (upd H p o) := fun b q nb e => by rw [upd_ne (fun z => nb (by rw [z]; exact h))]; exact e
theorem wd_deep (w : List Nat) : (wd w).deep ≤ 1 := by
  unfold wd Da.deep
  have : ∀ w : List Nat, Da.deeps (w.map fun c : Nat => Da.int (c : Int)) = 0 := by
    intro w
    induction w with
    | nil => simp [Da.deeps]
    | cons c w ih => rw [List.map_cons, Da.deeps, ih]; simp [Da.deep]
  rw [this w]
  omega
theorem mem_wd {w : List Nat} {R : List (List Nat)} : wd w ∈ R.map wd ↔ w ∈ R := ⟨fun h => by obtain ⟨u, hu, e⟩ := List.mem_map.mp h; rw [← wd_inj e]; exact hu, fun h => List.mem_map.mpr ⟨w, h, rfl⟩⟩
theorem put_fresh {κ : Type} [DecidableEq κ] {m : List (κ × V)} {k : κ} {v : V} (h : valV m k = none) : putK m k v = m ++ [(k, v)] := putK_new v h
theorem usd_snoc {k k' : Lk} {ws : List (List Nat)} {w : List Nat} (le : k.le k') (all : ∀ u ∈ ws, (run k 0 u).isSome = true) : usd k' (ws ++ [w]) = max (usd k ws) (rwN k' w + 1) := by
  unfold usd
  rw [List.map_append, List.foldl_append]
  have : ws.map (fun u => rwN k' u + 1) = ws.map fun u => rwN k u + 1 := List.map_congr_left fun u m => by rw [rw_le le (all u m)]
  rw [this]
  rfl
theorem given_snoc {k k' : Lk} {ws : List (List Nat)} {w : List Nat} (le : k.le k') (all : ∀ u ∈ ws, (run k 0 u).isSome = true) (h : w ∉ ws) : putK (ws.map (gv k)) (ky w) (.int ((rwN k' w : Nat) : Int)) = (ws ++ [w]).map (gv k') := by
  rw [put_fresh (val_given_no h), List.map_append]
  congr 1
  exact List.map_congr_left fun u m => by unfold gv; rw [rw_le le (all u m)]
/-- how a further word is given a row -/
structure Step (k k' : Lk) (ws : List (List Nat)) (w : List Nat) (s : Nat) : Prop where
  fresh : w ∉ ws
  nil : w = [] → s = 0 ∧ k' = k
  cons : w ≠ [] → w.dropLast ∈ ws ∧ k' = k.put (rwN k w.dropLast) (lst w) s ∧ (k (rwN k w.dropLast) (lst w) = none ∨ k (rwN k w.dropLast) (lst w) = some s)
theorem Step.le {k k' : Lk} {ws : List (List Nat)} {w : List Nat} {s : Nat} (h : Step k k' ws w s) : k.le k' := by
  by_cases e : w = []
  · rw [(h.nil e).2]; exact fun _ _ _ q => q
  · obtain ⟨_, rfl, q⟩ := h.cons e
    exact put_le q
theorem Step.run {k k' : Lk} {ws : List (List Nat)} {w : List Nat} {s : Nat} (h : Step k k' ws w s) (all : ∀ u ∈ ws, (run k 0 u).isSome = true) : run k' 0 w = some s := by
  by_cases e : w = []
  · subst e; rw [(h.nil rfl).1]; rfl
  · obtain ⟨m, ek, q⟩ := h.cons e
    obtain ⟨t, ht⟩ := Option.isSome_iff_exists.mp (all _ m)
    have r0 : rwN k w.dropLast = t := by unfold rwN; rw [ht]; rfl
    have le := h.le
    have z := word_split e
    rw [z, run_snoc, run_le le _ _ _ ht]
    show k' t (lst w) = some s
    rw [ek, r0]
    unfold Lk.put
    rw [if_pos ⟨rfl, rfl⟩]
def clash (k : Lk) (ws R W : List (List Nat)) (r : Nat) : Option (List Nat × List Nat) := match fstW k ws R r, fstW k ws W r with
  | some a, some b => some (a, b)
  | _, _ => none
def clashV (H : Hp) (x : V) : Option (List Nat × List Nat) → Prop
  | none => x = .non
  | some (a, b) => DV H x (.tup [wd a, wd b])
def sampD (R W : List (List Nat)) : Da := .tup [.tup (R.map wd), .tup (W.map wd)]
def spGive (CR : Addr) : Sp := fun vs H Q _ => ∃ a k k' ws R W v w s u, vs = [.ref a.p, v, .int ((s : Nat) : Int), u] ∧ SI CR H a k ws R W ∧ DV H v (wd w) ∧ DV H u (sampD R W) ∧ Step k k' ws w s ∧ ws.length < 1000 ∧
  ∀ x H', SI CR H' a k' (ws ++ [w]) R W → Out a.fp H H' → clashV H' x (clash k' (ws ++ [w]) R W s) → Q x H'
end Toy

set_option Elab.async false
set_option linter.all false
set_option maxRecDepth 100000
set_option maxHeartbeats 4000000
namespace Toy
open PySem L2
section
variable {P : Program} {w : World} {K : PySem.W.Frag} {mg : Str → Option Value} {base : Heap} {CR : Addr}
theorem samp_inv {H : Hp} {u : V} {R W : List (List Nat)} (h : DV H u (sampD R W)) : ∃ c cr cw rs ws, u = .ref c ∧ H c = some (.tup [.ref cr, .ref cw]) ∧ H cr = some (.tup rs) ∧ H cw = some (.tup ws) ∧ DVs H rs (R.map wd) ∧ DVs H ws (W.map wd) := by
  obtain ⟨c, xs, rfl, hc, hx⟩ := h.inv
  cases hx with
  | cons h1 h2 =>
    cases h2 with
    | cons h3 h4 =>
      cases h4
      obtain ⟨cr, rs, rfl, e1, d1⟩ := h1.inv
      obtain ⟨cw, ws, rfl, e2, d2⟩ := h3.inv
      exact ⟨c, cr, cw, rs, ws, rfl, hc, e1, e2, d1, d2⟩
theorem truW {K : PySem.W.Frag} {H : Hp} {q : Addr} {w : List Nat} (hq : H q = some (.tup (w.map fun c : Nat => V.int (c : Int)))) : TruV K (.ref q) H (decide (w ≠ [])) := by
  refine .inr (.inl ⟨_, SqT.of hq, ?_⟩)
  cases w <;> simp
abbrev s_r_give : Stmt := inClass (top 17) 3
theorem sc_r_give : FnScope ["self", "word", "row", "samples"] ["self", "word", "row", "samples"] (defScope s_r_give) := ⟨rfl, rfl, rfl, by decide +kernel, rfl, by decide +kernel, by decide +kernel⟩

theorem ok_r_give {f : Addr} {fd : FuncData} (F : Fun K "give" "RowState.give" s_r_give f fd) (T : Txt K mg CR) : FnOk P w K mg base CX0 1 f fd ["self", "word", "row", "samples"] (spGive CR) := by
  refine F.ok sc_r_give (fun vs H Q E h => ?_) (fun cdv A outer s H vs Q E hr h => ?_)
  · obtain ⟨a, k, k', ws, R, W, v, w, s, u, rfl, _⟩ := h
    rfl
  obtain ⟨a, lk, lk', ws, R, W, v, w, sr, u, rfl, S, hv, hu, st, few, k⟩ := h
  obtain ⟨q, rfl, hq⟩ := hv.word
  obtain ⟨c, cr, cw, rs, us, rfl, hc, hcr, hcw, dr, dw⟩ := samp_inv hu
  obtain ⟨m, hm, ml, mv⟩ := S.lks
  obtain ⟨mr, hmr, amr⟩ := S.ra
  obtain ⟨mw, hmw, amw⟩ := S.wa
  have amr : atM H mr lk ws R := amr
  have amw : atM H mw lk ws W := amw
  have run' := st.run S.all
  have rwn : rwN lk' w = sr := by unfold rwN; rw [run']; rfl
  have R0 : Raw CR H a (usd lk ws) (ws.map (gv lk)) m mr mw := ⟨S.obj, S.giv, hm, hmr, hmw, S.gl, S.rw⟩
  refine ⟨_, (pss_cons (ps_dput (hu_b hr) (pe_fld (pv 0) rfl) (pv 1) (pv 2) rfl)
    (C8.pss_cut (ps_if (pt_truth (pv 1) (by intro _; rfl)) (pss_one (ps_dput (hu_b hr) (pe_fld (pv 0) rfl) (pe_tup (pa_cons (pe_dget (hu_b hr) (pe_fld (pv 0) rfl) (pe_slice sl_tupB (pv 1) po_none (po_some (pe_un un_neg pe_int))) (fun _ _ => rfl)) (pa_cons (pe_ix ix_tup (pv 1) (pe_un un_neg pe_int) (fun _ _ => rfl)) pa_nil))) (pv 2) rfl)) pss_nil)
    (pss_cons (ps_fld (pv 0) (pe_callB (call_max2 rfl) (by rfl) T.z_max b_max (pa_cons (pe_fld (pv 0) rfl) (pa_cons (pe_op op_add (pv 2) pe_int) pa_nil))) rfl)
    (C8.pss_cut (ps_if (PW.pt (pw_and (pt_cmpR (op_inA (hu_a hr)) (pv 1) (pe_ix ix_tup (pv 3) pe_int (fun _ _ => rfl)) rfl) (pw_and1 (pt_cmp (pc_dnotin (hu_b hr) (pv 2) (pe_fld (pv 0) rfl)) rfl)))) (pss_one (ps_dput (hu_b hr) (pe_fld (pv 0) rfl) (pv 2) (pv 1) rfl)) pss_nil)
    (C8.pss_cut (ps_if (PW.pt (pw_and (pt_cmpR (op_inA (hu_a hr)) (pv 1) (pe_ix ix_tup (pv 3) pe_int (fun _ _ => rfl)) rfl) (pw_and1 (pt_cmp (pc_dnotin (hu_b hr) (pv 2) (pe_fld (pv 0) rfl)) rfl)))) (pss_one (ps_dput (hu_b hr) (pe_fld (pv 0) rfl) (pv 2) (pv 1) rfl)) pss_nil)
    (pss_cons (ps_if (PW.pt (pw_and (pt_cmp (pc_din (hu_b hr) (pv 2) (pe_fld (pv 0) rfl)) rfl) (pw_and1 (pt_cmp (pc_din (hu_b hr) (pv 2) (pe_fld (pv 0) rfl)) rfl)))) (pss_one (ps_ret (pe_tup (pa_cons (pe_dget (hu_b hr) (pe_fld (pv 0) rfl) (pv 2) (fun _ _ => rfl)) (pa_cons (pe_dget (hu_b hr) (pe_fld (pv 0) rfl) (pv 2) (fun _ _ => rfl)) pa_nil))))) pss_nil)
    (pss_one (ps_ret pe_non)))))))), ?_⟩
  have hq2 : H q = some (.tup ((ky w).map kV)) := by rw [ky_vs]; exact hq
  refine ⟨_, rfl, _, rfl, a.p, CR, a.dx, _, _, rfl, S.obj, T.cl, T.nG, lkG, _, rfl, a.g, _, rfl, .t S.giv hq2 (by rw [List.length_map]; exact small1000 (by omega)), ?_⟩
  rw [show V.int ((sr : Nat) : Int) = .int ((rwN lk' w : Nat) : Int) by rw [rwn], given_snoc st.le S.all st.fresh]
  have R1 := R0.setG ((ws ++ [w]).map (gv lk'))
  have nG : ∀ xs, H a.g ≠ some (.tup xs) := fun xs e => by rw [S.giv] at e; cases e
  generalize hH1 : upd H a.g (.dT ((ws ++ [w]).map (gv lk'))) = H1 at R1 ⊢
  have o1 : Out a.fp H H1 := by rw [← hH1]; exact out_upd (by simp [Ad.fp])
  have t1 : Tups H H1 := by rw [← hH1]; exact tups_upd nG
  rw [rwn]
  refine ⟨fun σ' H' => σ' = [some (.ref a.p), some (.ref q), some (.int ((sr : Nat) : Int)), some (.ref c)] ∧ Out a.fp H H' ∧ Tups H H' ∧ ∃ m', Raw CR H' a (usd lk ws) ((ws ++ [w]).map (gv lk')) m' mr mw ∧ m'.length ≤ ws.length + 1 ∧ ∀ r c : Nat, valV m' [Sum.inl (r : Int), Sum.inl (c : Int)] = (lk' r c).map fun v => V.int ((v : Nat) : Int), ?_, ?_⟩
  · have hq1 := t1 _ _ hq
    refine ⟨_, rfl, _, truW hq1, ?_⟩
    by_cases hw0 : w = []
    · refine ifF (by simp [hw0]) ⟨rfl, o1, t1, m, R1, by omega, ?_⟩
      rw [(st.nil hw0).2]
      exact mv
    · refine ifT (by simp [hw0]) ?_
      obtain ⟨hpre, ek, _⟩ := st.cons hw0
      refine ⟨_, rfl, _, rfl, a.p, CR, a.dx, _, _, rfl, R1.obj, T.cl, T.nL, lkL, ?_⟩
      refine ⟨_, rfl, a.p, CR, a.dx, _, _, rfl, R1.obj, T.cl, T.nG, lkG, _, rfl, _, rfl, _, rfl, q, _, rfl, hq1, fun b H2 s2 hb => ?_⟩
      have hb' : H2 b = some (.tup ((ky w.dropLast).map kV)) := by
        rw [hb, ky_vs, show (-(1 : Int)) = -1 by rfl, cutV_last, List.map_dropLast]
      have dg := DGet.t (s2 _ _ R1.giv) hb'
      rw [val_given (List.mem_append_left _ hpre), rw_le st.le (S.all _ hpre)] at dg
      refine ⟨a.g, _, rfl, dg, _, rfl, _, rfl, q, _, _, _, rfl, rfl, SqT.of (s2 _ _ hq1), at_last hw0, by show 2 ≤ sizeLine; decide, fun t ht => ?_⟩
      have s3 : Same H1 (upd H2 t (.tup [.int ((rwN lk w.dropLast : Nat) : Int), .int ((lst w : Nat) : Int)])) := s2.trans (Same.upd ht)
      have kt : upd H2 t (.tup [.int ((rwN lk w.dropLast : Nat) : Int), .int ((lst w : Nat) : Int)]) t = some (.tup (([Sum.inl ((rwN lk w.dropLast : Nat) : Int), Sum.inl ((lst w : Nat) : Int)] : List Key).map kV)) := upd_same
      generalize upd H2 t (.tup [.int ((rwN lk w.dropLast : Nat) : Int), .int ((lst w : Nat) : Int)]) = H3 at s3 kt ⊢
      have R3 := R1.same s3
      refine ⟨a.l, _, rfl, .t R3.lks kt (small1000 (by omega)), rfl, (o1.trans (out_same s3)).trans (out_upd (by simp [Ad.fp])), (t1.trans (same_tp s3)).trans (tups_upd fun xs e => by rw [R3.lks] at e; cases e), _, R3.setL _, ?_, fun r c => ?_⟩
      · have := length_putK m [Sum.inl ((rwN lk w.dropLast : Nat) : Int), Sum.inl ((lst w : Nat) : Int)] (V.int ((sr : Nat) : Int))
        omega
      · rw [valV_put, mv, ek]
        unfold Lk.put
        by_cases e : r = rwN lk w.dropLast ∧ c = lst w
        · obtain ⟨rfl, rfl⟩ := e
          rw [if_pos rfl, if_pos ⟨rfl, rfl⟩]
          rfl
        · rw [if_neg e, if_neg]
          intro z
          injection z with z1 z2
          injection z2 with z2 _
          exact e ⟨by injection z1 with z1; omega, by injection z2 with z2; omega⟩
  · rintro σ' H' ⟨rfl, o2, t2, m', R2, ml2, mv2⟩
    refine ⟨_, rfl, a.p, CR, a.dx, _, _, rfl, R2.obj, T.cl, T.nU, lkU, _, rfl, _, _, rfl, rfl, _, _, rfl, ?_⟩
    refine ⟨_, rfl, a.p, CR, a.dx, _, rfl, R2.obj, T.cl, T.nU, (by show 5 < 1000; decide), ?_⟩
    rw [pU]
    have eu : (if (sr : Int) + 1 > ((usd lk ws : Nat) : Int) then (sr : Int) + 1 else ((usd lk ws : Nat) : Int)) = ((usd lk' (ws ++ [w]) : Nat) : Int) := by
      rw [usd_snoc st.le S.all, rwn]
      split <;> omega
    rw [eu]
    have R3 := R2.setU (usd lk' (ws ++ [w]))
    have o3 : Out a.fp H' (upd H' a.p (.ins CR a.dx (rf a (usd lk' (ws ++ [w]))))) := out_upd (by simp [Ad.fp])
    have t3 : Tups H' (upd H' a.p (.ins CR a.dx (rf a (usd lk' (ws ++ [w]))))) := tups_upd fun xs e => by rw [R2.obj] at e; cases e
    generalize upd H' a.p (.ins CR a.dx (rf a (usd lk' (ws ++ [w])))) = H3 at R3 o3 t3 ⊢
    have oA := o2.trans o3
    have tA := t2.trans t3
    have vA : DV H3 (.ref q) (wd w) := hv.mono tA
    refine ⟨fun σ' H' => σ' = [some (.ref a.p), some (.ref q), some (.int ((sr : Nat) : Int)), some (.ref c)] ∧ Out a.fp H H' ∧ Tups H H' ∧ ∃ mr', Raw CR H' a (usd lk' (ws ++ [w])) ((ws ++ [w]).map (gv lk')) m' mr' mw ∧ atM H' mr' lk' (ws ++ [w]) R, ?_, ?_⟩
    · have step := atM_step (amr.mono tA) st.le S.all rwn vA
      refine ⟨_, rfl, _, rfl, c, _, _, _, rfl, rfl, SqT.of (tA _ _ hc), rfl, wd w, cr, rs, _, vA, rfl, .inl (tA _ _ hcr), dr.mono tA, Nat.le_trans (wd_deep w) (by decide), fun b hb => ⟨_, rfl, ?_⟩⟩
      rw [mem_wd] at hb
      refine ite2 (fun c1 => ?_) (fun c1 => ?_)
      · refine ⟨_, rfl, _, rfl, a.p, CR, a.dx, _, _, rfl, R3.obj, T.cl, T.nR, lkR, a.r, _, rfl, .k (k := Sum.inl ((sr : Nat) : Int)) R3.ra, _, rfl, ite2 (fun c2 => ?_) (fun c2 => ?_)⟩
        · refine ⟨_, rfl, _, rfl, a.p, CR, a.dx, _, _, rfl, R3.obj, T.cl, T.nR, lkR, _, rfl, a.r, _, rfl, .k (k := Sum.inl ((sr : Nat) : Int)) R3.ra (small1000 (by have := amr.1; omega)), ?_⟩
          have nr : ∀ xs, H3 a.r ≠ some (.tup xs) := fun xs e => by rw [R3.ra] at e; cases e
          exact ⟨rfl, oA.trans (out_upd (by simp [Ad.fp])), tA.trans (tups_upd nr), _, R3.setR _, (step.1 ⟨hb.mp c1, by simpa using c2⟩).mono (tups_upd nr)⟩
        · exact ⟨rfl, oA, tA, _, R3, step.2 fun z => by rw [z.2] at c2; exact c2 rfl⟩
      · exact ⟨rfl, oA, tA, _, R3, step.2 fun z => c1 (hb.mpr z.1)⟩
    · rintro σ' H4 ⟨rfl, oB, tB, mr', R4, am4⟩
      have vB : DV H4 (.ref q) (wd w) := hv.mono tB
      refine ⟨fun σ' H' => σ' = [some (.ref a.p), some (.ref q), some (.int ((sr : Nat) : Int)), some (.ref c)] ∧ Out a.fp H H' ∧ Tups H H' ∧ ∃ mw', Raw CR H' a (usd lk' (ws ++ [w])) ((ws ++ [w]).map (gv lk')) m' mr' mw' ∧ atM H' mr' lk' (ws ++ [w]) R ∧ atM H' mw' lk' (ws ++ [w]) W, ?_, ?_⟩
      · have step := atM_step (amw.mono tB) st.le S.all rwn vB
        refine ⟨_, rfl, _, rfl, c, _, _, _, rfl, rfl, SqT.of (tB _ _ hc), rfl, wd w, cw, us, _, vB, rfl, .inl (tB _ _ hcw), dw.mono tB, Nat.le_trans (wd_deep w) (by decide), fun b hb => ⟨_, rfl, ?_⟩⟩
        rw [mem_wd] at hb
        refine ite2 (fun c1 => ?_) (fun c1 => ?_)
        · refine ⟨_, rfl, _, rfl, a.p, CR, a.dx, _, _, rfl, R4.obj, T.cl, T.nW, lkW, a.w, _, rfl, .k (k := Sum.inl ((sr : Nat) : Int)) R4.wa, _, rfl, ite2 (fun c2 => ?_) (fun c2 => ?_)⟩
          · refine ⟨_, rfl, _, rfl, a.p, CR, a.dx, _, _, rfl, R4.obj, T.cl, T.nW, lkW, _, rfl, a.w, _, rfl, .k (k := Sum.inl ((sr : Nat) : Int)) R4.wa (small1000 (by have := amw.1; omega)), ?_⟩
            have nr : ∀ xs, H4 a.w ≠ some (.tup xs) := fun xs e => by rw [R4.wa] at e; cases e
            exact ⟨rfl, oB.trans (out_upd (by simp [Ad.fp])), tB.trans (tups_upd nr), _, R4.setW _, am4.mono (tups_upd nr), (step.1 ⟨hb.mp c1, by simpa using c2⟩).mono (tups_upd nr)⟩
          · exact ⟨rfl, oB, tB, _, R4, am4, step.2 fun z => by rw [z.2] at c2; exact c2 rfl⟩
        · exact ⟨rfl, oB, tB, _, R4, am4, step.2 fun z => c1 (hb.mpr z.1)⟩
      · rintro σ' H5 ⟨rfl, oC, tC, mw', R5, amr5, amw5⟩
        have SI' : ∀ {H6 : Hp}, Same H5 H6 → SI CR H6 a lk' (ws ++ [w]) R W := fun {H6} s6 => by
          have R6 := R5.same s6
          refine ⟨R6.obj, R6.giv, fun u hu => ?_, ?_, by rw [List.length_append, List.length_singleton]; omega, ⟨_, R6.lks, by rw [List.length_append, List.length_singleton]; omega, mv2⟩, ⟨_, R6.ra, amr5.mono (same_tp s6)⟩, ⟨_, R6.wa, amw5.mono (same_tp s6)⟩, R6.gl, R6.rw⟩
          · rcases List.mem_append.mp hu with z | z
            · obtain ⟨t, ht⟩ := Option.isSome_iff_exists.mp (S.all u z)
              rw [run_le st.le _ _ _ ht]; rfl
            · rw [List.mem_singleton.mp z, run']; rfl
          · exact List.nodup_append.mpr ⟨S.nd, by simp, fun x hx b hb e => by simp at hb; subst hb; subst e; exact st.fresh hx⟩
        refine ⟨_, rfl, _, rfl, a.p, CR, a.dx, _, _, rfl, R5.obj, T.cl, T.nR, lkR, a.r, _, rfl, .k (k := Sum.inl ((sr : Nat) : Int)) R5.ra, _, rfl, ?_⟩
        have isr := amr5.is sr
        have isw := amw5.is sr
        have hr2 := amr5.2 sr
        have hw2 := amw5.2 sr
        cases fr : fstW lk' (ws ++ [w]) R sr with
        | none =>
          rw [fr] at isr
          refine ifF (by rw [isr]; decide) ?_
          refine k _ H5 (SI' (Same.refl _)) oC ?_
          unfold clash
          rw [fr]
          rfl
        | some w1 =>
          rw [fr] at isr hr2
          obtain ⟨v1, hv1, d1⟩ := hr2
          refine ifT (by rw [isr]; rfl) ⟨_, rfl, _, rfl, a.p, CR, a.dx, _, _, rfl, R5.obj, T.cl, T.nW, lkW, a.w, _, rfl, .k (k := Sum.inl ((sr : Nat) : Int)) R5.wa, _, rfl, ?_⟩
          cases fw : fstW lk' (ws ++ [w]) W sr with
          | none =>
            rw [fw] at isw
            refine ifF (by rw [isw]; decide) ?_
            refine k _ H5 (SI' (Same.refl _)) oC ?_
            unfold clash
            rw [fr, fw]
            rfl
          | some w2 =>
            rw [fw] at isw hw2
            obtain ⟨v2, hv2, d2⟩ := hw2
            refine ifT (by rw [isw]; rfl) ?_
            have g1 := DGet.k (k := Sum.inl ((sr : Nat) : Int)) R5.ra
            have g2 := DGet.k (k := Sum.inl ((sr : Nat) : Int)) R5.wa
            rw [hv1] at g1
            rw [hv2] at g2
            refine ⟨_, rfl, a.p, CR, a.dx, _, _, rfl, R5.obj, T.cl, T.nR, lkR, _, rfl, a.r, _, rfl, g1, _, rfl, a.p, CR, a.dx, _, _, rfl, R5.obj, T.cl, T.nW, lkW, _, rfl, a.w, _, rfl, g2, by show 2 ≤ sizeLine; decide, fun z hz => ?_⟩
            have s6 : Same H5 (upd H5 z (.tup [v1, v2])) := Same.upd hz
            refine k _ _ (SI' s6) (oC.trans (out_same s6)) ?_
            unfold clash
            rw [fr, fw]
            exact .tup upd_same (.cons (d1.mono (same_tp s6)) (.cons (d2.mono (same_tp s6)) .nil))
end
end Toy

set_option Elab.async false
set_option linter.all false
set_option maxRecDepth 100000
set_option maxHeartbeats 4000000
namespace Toy
open PySem L2
theorem pgK_tup {X : Cx} (K : PySem.W.Frag) (hK : X.K = K) (hc : X.calm = true) {es : List Expr} {k : Nat} {pos : Pos} {t : TGs} {n : Nat} (h : PGs X es t) (hn : (assignEach es X.env).length = n := by rfl) (hst : (assignEach es X.env).findIdx? (·.1) = none := by rfl) : PG X (.Tuple es k pos) (gTup K n t) := by
  subst hK
  exact pg_tup hc h hn hst
def spCopied (CR : Addr) : Sp := fun vs H Q _ => ∃ a k ws R W, vs = [.ref a.p] ∧ SI CR H a k ws R W ∧ ∀ (a' : Ad) H', Same H H' → SI CR H' a' k ws R W → (∀ b ∈ a'.fp, H b = none) → Q (.ref a'.p) H'
section
variable {P : Program} {w : World} {K : PySem.W.Frag} {mg : Str → Option Value} {base : Heap} {CR : Addr}
abbrev s_r_copied : Stmt := inClass (top 17) 1
theorem sc_r_copied : FnScope ["self", "made", "word", "row", "key"] ["self"] (defScope s_r_copied) := ⟨rfl, rfl, rfl, by decide +kernel, rfl, by decide +kernel, by decide +kernel⟩

theorem ok_r_copied {f : Addr} {fd : FuncData} (F : Fun K "copied" "RowState.copied" s_r_copied f fd) (T : Txt K mg CR) (N_RowState : MakX P w K mg base CX0 1 "RowState" CR (spInit CR)) : FnOk P w K mg base CX0 3 f fd ["self"] (spCopied CR) := by
  refine F.ok sc_r_copied (fun vs H Q E h => ?_) (fun cdv A outer s H vs Q E hr h => ?_)
  · obtain ⟨a, k, ws, R, W, rfl, _⟩ := h
    rfl
  obtain ⟨a, lk, ws, R, W, rfl, S, k⟩ := h
  obtain ⟨m, hm, ml, mv⟩ := S.lks
  obtain ⟨mr, hmr, amr⟩ := S.ra
  obtain ⟨mw, hmw, amw⟩ := S.wa
  have few := S.few
  have amr : atM H mr lk ws R := amr
  have amw : atM H mw lk ws W := amw
  have R0 : Raw CR H a (usd lk ws) (ws.map (gv lk)) m mr mw := ⟨S.obj, S.giv, hm, hmr, hmw, S.gl, S.rw⟩
  refine ⟨_, (pss_cons (ps_set (i := 1) sc_r_copied.nd rfl (Or.inl rfl) (pe_n0 N_RowState hr (by omega) pass0))
    (pss_cons (ps_fld (pv 1) (pe_lock (pe_dcT (own := [("word", 2), ("row", 3)]) (hu_b hr) (by rfl) sc_r_copied.nd (pi_itsT (pe_fld (pv 0) rfl)) (blkOk_by (own := [("word", 2), ("row", 3)]) (N := ["self", "made", "word", "row", "key"]) (sc := defScope s_r_copied) (by decide +kernel)) (fun _ _ _ _ _ => pgK_tup (n := 2) K rfl rfl (pgs_cons (pg_name (i := 2) sc_r_copied.nd rfl (Or.inl rfl)) (pgs_cons (pg_name (i := 3) sc_r_copied.nd rfl (Or.inl rfl)) pgs_nil))) (fun _ _ _ _ _ => (pv 2)) (fun _ _ _ _ _ => (pv 3)))) rfl)
    (pss_cons (ps_fld (pv 1) (pe_lock (pe_dcT (own := [("key", 4), ("row", 3)]) (hu_b hr) (by rfl) sc_r_copied.nd (pi_itsT (pe_fld (pv 0) rfl)) (blkOk_by (own := [("key", 4), ("row", 3)]) (N := ["self", "made", "word", "row", "key"]) (sc := defScope s_r_copied) (by decide +kernel)) (fun _ _ _ _ _ => pgK_tup (n := 2) K rfl rfl (pgs_cons (pg_name (i := 4) sc_r_copied.nd rfl (Or.inl rfl)) (pgs_cons (pg_name (i := 3) sc_r_copied.nd rfl (Or.inl rfl)) pgs_nil))) (fun _ _ _ _ _ => (pv 4)) (fun _ _ _ _ _ => (pv 3)))) rfl)
    (pss_cons (ps_fld (pv 1) (pe_fld (pv 0) rfl) rfl)
    (pss_cons (ps_fld (pv 1) (pe_callTy call_dictD (by rfl) T.z_dict b_dict (pa_cons (pe_fld (pv 0) rfl) pa_nil)) rfl)
    (pss_cons (ps_fld (pv 1) (pe_callTy call_dictD (by rfl) T.z_dict b_dict (pa_cons (pe_fld (pv 0) rfl) pa_nil)) rfl)
    (pss_one (ps_ret (pv 1))))))))), ?_⟩
  refine fun p dx hp hdx hne => ⟨p, dx, rfl, upd_same, fun a' H1 ea SI1 K1 fr => ⟨rfl, ?_⟩⟩
  have s1 : Same H H1 := fun b o e => K1 b o (ne_of_none e hp) (by rw [upd_ne (ne_of_none e hp), upd_ne (ne_of_none e hdx)]; exact e)
  have I1 := SI1 [] []
  subst ea
  have ob1 := I1.obj
  have R1 := R0.same s1
  -- given
  simp only [gName, tSeq, sFld]
  refine copyT (K := K) (σ := [some (.ref a.p), some (.ref a'.p), none, none, none]) (i := 2) (j := 3) (td := tFld K (tVar 0) "given") (d := a.g) R1.giv (by rw [List.length_map]; exact small1000 (by omega)) (by simp) (by simp) (by decide) (fun od R hR => ⟨_, rfl, a.p, CR, a.dx, _, _, rfl, by rw [upd_ne R1.pg]; exact R1.obj, T.cl, T.nG, lkG, hR⟩) (fun g2 H2 hg2 s2 hG2 => ?_)
  refine ⟨_, rfl, a'.p, CR, a'.dx, _, rfl, s2 _ _ ob1, T.cl, T.nG, (by show 5 < 1000; decide), ?_⟩
  rw [pG]
  have ob3 : ∀ {v : List (Str × V)} {G : Hp}, upd G a'.p (.ins CR a'.dx v) a'.p = some (.ins CR a'.dx v) := upd_same
  have st2 := s1.trans s2
  have pfresh : ∀ {b o}, H b = some o → b ≠ a'.p := fun e z => by rw [z, hp] at e; cases e
  have g2p : g2 ≠ a'.p := fun z => by rw [z, ob1] at hg2; cases hg2
  obtain ⟨H3, eH3⟩ : ∃ H3, H3 = upd H2 a'.p (.ins CR a'.dx (rfs (.ref g2) (.ref a'.l) (.int 0) (.ref a'.r) (.ref a'.w))) := ⟨_, rfl⟩
  have st3 : Same H H3 := fun b o e => by rw [eH3, upd_ne (pfresh e)]; exact st2 b o e
  have o3 : H3 a'.p = some (.ins CR a'.dx (rfs (.ref g2) (.ref a'.l) (.int 0) (.ref a'.r) (.ref a'.w))) := by rw [eH3, upd_same]
  have g3 : H3 g2 = some (.dT (ws.map (gv lk))) := by rw [eH3, upd_ne g2p]; exact hG2
  rw [show (V.int ((usd (fun _ _ => none) ([] : List (List Nat)) : Nat) : Int)) = V.int 0 from rfl]
  rw [← eH3]
  have R3 := R0.same st3
  -- links
  refine copyT (K := K) (σ := [some (.ref a.p), some (.ref a'.p), none, none, none]) (i := 4) (j := 3) (td := tFld K (tVar 0) "links") (d := a.l) R3.lks (small1000 (by omega)) (by simp) (by simp) (by decide) (fun od R hR => ⟨_, rfl, a.p, CR, a.dx, _, _, rfl, by rw [upd_ne R3.pl]; exact R3.obj, T.cl, T.nL, lkL, hR⟩) (fun l2 H4 hl2 s4 hL4 => ?_)
  refine ⟨_, rfl, a'.p, CR, a'.dx, _, rfl, s4 _ _ o3, T.cl, T.nL, (by show 5 < 1000; decide), ?_⟩
  rw [pL]
  have l2p : l2 ≠ a'.p := fun z => by rw [z, o3] at hl2; cases hl2
  have gl2 : g2 ≠ l2 := fun z => by rw [← z, g3] at hl2; cases hl2
  have st4 := st3.trans s4
  obtain ⟨H5, eH5⟩ : ∃ H5, H5 = upd H4 a'.p (.ins CR a'.dx (rfs (.ref g2) (.ref l2) (.int 0) (.ref a'.r) (.ref a'.w))) := ⟨_, rfl⟩
  have st5 : Same H H5 := fun b o e => by rw [eH5, upd_ne (pfresh e)]; exact st4 b o e
  have o5 : H5 a'.p = some (.ins CR a'.dx (rfs (.ref g2) (.ref l2) (.int 0) (.ref a'.r) (.ref a'.w))) := by rw [eH5, upd_same]
  have g5 : H5 g2 = some (.dT (ws.map (gv lk))) := by rw [eH5, upd_ne g2p]; exact s4 _ _ g3
  have l5 : H5 l2 = some (.dT m) := by rw [eH5, upd_ne l2p]; exact hL4
  rw [← eH5]
  have R5 := R0.same st5
  -- used
  refine ⟨_, rfl, a.p, CR, a.dx, _, _, rfl, R5.obj, T.cl, T.nU, lkU, _, rfl, a'.p, CR, a'.dx, _, rfl, o5, T.cl, T.nU, (by show 5 < 1000; decide), ?_⟩
  rw [pU]
  obtain ⟨H6, eH6⟩ : ∃ H6, H6 = upd H5 a'.p (.ins CR a'.dx (rfs (.ref g2) (.ref l2) (.int ((usd lk ws : Nat) : Int)) (.ref a'.r) (.ref a'.w))) := ⟨_, rfl⟩
  have st6 : Same H H6 := fun b o e => by rw [eH6, upd_ne (pfresh e)]; exact st5 b o e
  have o6 : H6 a'.p = some (.ins CR a'.dx (rfs (.ref g2) (.ref l2) (.int ((usd lk ws : Nat) : Int)) (.ref a'.r) (.ref a'.w))) := by rw [eH6, upd_same]
  have g6 : H6 g2 = some (.dT (ws.map (gv lk))) := by rw [eH6, upd_ne g2p]; exact g5
  have l6 : H6 l2 = some (.dT m) := by rw [eH6, upd_ne l2p]; exact l5
  rw [← eH6]
  have R6 := R0.same st6
  -- right_at
  refine ⟨_, rfl, a.p, CR, a.dx, _, _, rfl, R6.obj, T.cl, T.nR, lkR, a.r, mr, rfl, .inl R6.ra, fun r2 hr2 => ?_⟩
  have r2p : r2 ≠ a'.p := fun z => by rw [z, o6] at hr2; cases hr2
  refine ⟨_, rfl, a'.p, CR, a'.dx, _, rfl, by rw [upd_ne (Ne.symm r2p)]; exact o6, T.cl, T.nR, (by show 5 < 1000; decide), ?_⟩
  rw [pR]
  obtain ⟨H7, eH7⟩ : ∃ H7, H7 = upd (upd H6 r2 (.dK mr)) a'.p (.ins CR a'.dx (rfs (.ref g2) (.ref l2) (.int ((usd lk ws : Nat) : Int)) (.ref r2) (.ref a'.w))) := ⟨_, rfl⟩
  have st7 : Same H H7 := fun b o e => by rw [eH7, upd_ne (pfresh e), upd_ne (ne_of_none (st6 b o e) hr2)]; exact st6 b o e
  have o7 : H7 a'.p = some (.ins CR a'.dx (rfs (.ref g2) (.ref l2) (.int ((usd lk ws : Nat) : Int)) (.ref r2) (.ref a'.w))) := by rw [eH7, upd_same]
  have g7 : H7 g2 = some (.dT (ws.map (gv lk))) := by rw [eH7, upd_ne g2p, upd_ne (ne_of_none g6 hr2)]; exact g6
  have l7 : H7 l2 = some (.dT m) := by rw [eH7, upd_ne l2p, upd_ne (ne_of_none l6 hr2)]; exact l6
  have r7 : H7 r2 = some (.dK mr) := by rw [eH7, upd_ne r2p, upd_same]
  rw [← eH7]
  have R7 := R0.same st7
  -- wrong_at
  refine ⟨_, rfl, a.p, CR, a.dx, _, _, rfl, R7.obj, T.cl, T.nW, lkW, a.w, mw, rfl, .inl R7.wa, fun w2 hw2 => ?_⟩
  have w2p : w2 ≠ a'.p := fun z => by rw [z, o7] at hw2; cases hw2
  refine ⟨_, rfl, a'.p, CR, a'.dx, _, rfl, by rw [upd_ne (Ne.symm w2p)]; exact o7, T.cl, T.nW, (by show 5 < 1000; decide), ?_⟩
  rw [pW]
  obtain ⟨H8, eH8⟩ : ∃ H8, H8 = upd (upd H7 w2 (.dK mw)) a'.p (.ins CR a'.dx (rfs (.ref g2) (.ref l2) (.int ((usd lk ws : Nat) : Int)) (.ref r2) (.ref w2))) := ⟨_, rfl⟩
  have st8 : Same H H8 := fun b o e => by rw [eH8, upd_ne (pfresh e), upd_ne (ne_of_none (st7 b o e) hw2)]; exact st7 b o e
  rw [← eH8]
  refine ⟨_, rfl, ?_⟩
  have none_of : ∀ {b : Addr} {G : Hp}, Same H G → G b = none → H b = none := fun {b G} s e => by
    cases c : H b with
    | none => rfl
    | some o => rw [s _ _ c] at e; cases e
  refine k ⟨a'.p, a'.dx, g2, l2, r2, w2⟩ H8 st8 ⟨by rw [eH8, upd_same], ?_, S.all, S.nd, S.few, ⟨m, ?_, ml, mv⟩, ⟨mr, ?_, amr.mono (same_tp st8)⟩, ⟨mw, ?_, amw.mono (same_tp st8)⟩, gl2, fun z => ?_⟩ (fun b hb => ?_)
  · rw [eH8, upd_ne g2p, upd_ne (ne_of_none g7 hw2)]; exact g7
  · rw [eH8, upd_ne l2p, upd_ne (ne_of_none l7 hw2)]; exact l7
  · rw [eH8, upd_ne r2p, upd_ne (ne_of_none r7 hw2)]; exact r7
  · rw [eH8, upd_ne w2p, upd_same]
  · have z : r2 = w2 := z
    rw [← z, r7] at hw2; cases hw2
  · simp only [Ad.fp, List.mem_cons, List.not_mem_nil, or_false] at hb
    rcases hb with rfl | rfl | rfl | rfl | rfl
    · exact hp
    · exact none_of s1 hg2
    · exact none_of st3 hl2
    · exact none_of st6 hr2
    · exact none_of st7 hw2
end
end Toy

set_option Elab.async false
set_option linter.all false
set_option maxRecDepth 100000
set_option maxHeartbeats 4000000
namespace Toy
open PySem L2
inductive Tr where
  | non | fits | bad1 (a : List Nat) | bad (a b : List Nat) | try_ (ts : List Tr)
mutual
def Tr.da : Tr → Da
  | .non => .non
  | .fits => .tup [.str "fits"]
  | .bad1 a => .tup [.str "bad", wd a]
  | .bad a b => .tup [.str "bad", wd a, wd b]
  | .try_ ts => .tup [.str "try", .tup (Tr.das ts)]
def Tr.das : List Tr → List Da
  | [] => []
  | t :: r => t.da :: Tr.das r
end
theorem das_map : ∀ l : List Tr, Tr.das l = l.map Tr.da
  | [] => rfl
  | t :: r => by rw [Tr.das, List.map_cons, das_map r]
def isBad (k : Lk) (ws R W : List (List Nat)) : Tr → Bool
  | .bad a b => decide (a ∈ R ∧ b ∈ W ∧ a ∈ ws ∧ b ∈ ws ∧ rwN k a = rwN k b)
  | _ => false
def Bin (R : List (List Nat)) : Prop := ∀ w ∈ R, ∀ c ∈ w, c < 2
def spIsBad (CR : Addr) : Sp := fun vs H Q _ => ∃ a k ws R W u t tr, vs = [.ref a.p, u, t, .int 2] ∧ SI CR H a k ws R W ∧ DV H u (sampD R W) ∧ DV H t (Tr.da tr) ∧ Bin R ∧ Bin W ∧ Q (.bl (isBad k ws R W tr)) H
theorem str_ne1 : ("try" : Str) ≠ "bad" := by decide +kernel
section
variable {P : Program} {w : World} {K : PySem.W.Frag} {mg : Str → Option Value} {base : Heap} {CR : Addr}
abbrev s_is_bad : Stmt := top 20
theorem sc_is_bad : FnScope ["state", "samples", "tree", "base"] ["state", "samples", "tree", "base"] (defScope s_is_bad) := ⟨rfl, rfl, rfl, by decide +kernel, rfl, by decide +kernel, by decide +kernel⟩

theorem ok_is_bad {f : Addr} {fd : FuncData} (F : Fun K "is_bad" "is_bad" s_is_bad f fd) (T : Txt K mg CR) (C_is_cells : CalX P w K mg base CX0 2 "is_cells" spCells) : FnOk P w K mg base CX0 3 f fd ["state", "samples", "tree", "base"] (spIsBad CR) := by
  refine F.ok sc_is_bad (fun vs H Q E h => ?_) (fun cdv A outer s H vs Q E hr h => ?_)
  · obtain ⟨a, k, ws, R, W, u, t, tr, rfl, _⟩ := h
    rfl
  obtain ⟨a, lk, ws, R, W, u, t, tr, rfl, S, hu, ht, bR, bW, k⟩ := h
  obtain ⟨c, cr, cw, rs, us, rfl, hc, hcr, hcw, dr, dw⟩ := samp_inv hu
  refine ⟨_, (pss_cons (ps_if (PW.pt (pw_or (pt_not (pt_val (pe_callB call_isi2 (by rfl) T.z_isinstance b_isinstance (pa_cons (pv 2) (pa_cons (pe_bltn (v := .ty "tuple") (by rfl) T.z_tuple b_tuple rfl) pa_nil))))) (pw_or (pt_cmpR op_ne (pe_callB call_len_seq (by rfl) T.z_len b_len (pa_cons (pv 2) pa_nil)) pe_int (nomark _)) (pw_or1 (pt_cmpR op_ne (pe_ix ix_tup (pv 2) pe_int (fun _ _ => rfl)) pe_str (nomark _)))))) (pss_one (ps_ret pe_bl)) pss_nil)
    (pss_cons (ps_if (PW.pt (pw_or (pt_not (pt_val (pe_u C_is_cells hr (by omega) pass0 (pa_cons (pe_ix ix_tup (pv 2) pe_int (fun _ _ => rfl)) (pa_cons (pv 3) pa_nil))))) (pw_or1 (pt_not (pt_val (pe_u C_is_cells hr (by omega) pass0 (pa_cons (pe_ix ix_tup (pv 2) pe_int (fun _ _ => rfl)) (pa_cons (pv 3) pa_nil)))))))) (pss_one (ps_ret pe_bl)) pss_nil)
    (pss_cons (ps_if (PW.pt (pw_or (pt_cmpR (op_niA (hu_a hr)) (pe_ix ix_tup (pv 2) pe_int (fun _ _ => rfl)) (pe_ix ix_tup (pv 1) pe_int (fun _ _ => rfl)) rfl) (pw_or1 (pt_cmpR (op_niA (hu_a hr)) (pe_ix ix_tup (pv 2) pe_int (fun _ _ => rfl)) (pe_ix ix_tup (pv 1) pe_int (fun _ _ => rfl)) rfl)))) (pss_one (ps_ret pe_bl)) pss_nil)
    (pss_cons (ps_if (PW.pt (pw_or (pt_cmp (pc_dnotin (hu_b hr) (pe_ix ix_tup (pv 2) pe_int (fun _ _ => rfl)) (pe_fld (pv 0) rfl)) rfl) (pw_or1 (pt_cmp (pc_dnotin (hu_b hr) (pe_ix ix_tup (pv 2) pe_int (fun _ _ => rfl)) (pe_fld (pv 0) rfl)) rfl)))) (pss_one (ps_ret pe_bl)) pss_nil)
    (pss_one (ps_ret (pe_cmpR op_eq (pe_dget (hu_b hr) (pe_fld (pv 0) rfl) (pe_ix ix_tup (pv 2) pe_int (fun _ _ => rfl)) (fun _ _ => rfl)) (pe_dget (hu_b hr) (pe_fld (pv 0) rfl) (pe_ix ix_tup (pv 2) pe_int (fun _ _ => rfl)) (fun _ _ => rfl)) (nomark _)))))))), ?_⟩
  cases tr with
  | non =>
    cases ht
    exact ⟨_, rfl, _, _, _, false, rfl, .base .non, by decide +kernel, _, rfl, ifT rfl k⟩
  | fits =>
    obtain ⟨q, xs, rfl, hq, hx⟩ := ht.inv
    have hl := hx.length
    refine ⟨_, rfl, _, _, _, true, rfl, .base (.tup hq), by decide +kernel, _, rfl, ifF (by simp) ?_⟩
    refine ⟨_, rfl, q, _, rfl, .inr (SqT.of hq), rfl, _, rfl, ifT (by rw [hl]; decide) k⟩
  | bad1 x =>
    obtain ⟨q, xs, rfl, hq, hx⟩ := ht.inv
    have hl := hx.length
    refine ⟨_, rfl, _, _, _, true, rfl, .base (.tup hq), by decide +kernel, _, rfl, ifF (by simp) ?_⟩
    refine ⟨_, rfl, q, _, rfl, .inr (SqT.of hq), rfl, _, rfl, ifT (by rw [hl]; show (!decide (V.int 2 = V.int 3)) = true; decide) k⟩
  | try_ ts =>
    obtain ⟨q, xs, rfl, hq, hx⟩ := ht.inv
    have hl := hx.length
    refine ⟨_, rfl, _, _, _, true, rfl, .base (.tup hq), by decide +kernel, _, rfl, ifF (by simp) ?_⟩
    refine ⟨_, rfl, q, _, rfl, .inr (SqT.of hq), rfl, _, rfl, ifT (by rw [hl]; show (!decide (V.int 2 = V.int 3)) = true; decide) k⟩
  | bad x y =>
    obtain ⟨q, xs, rfl, hq, hx⟩ := ht.inv
    cases hx with
    | cons h1 h2 =>
      cases h2 with
      | cons h3 h4 =>
        cases h4 with
        | cons h5 h6 =>
          cases h6
          cases h1
          obtain ⟨px, rfl, hpx⟩ := h3.word
          obtain ⟨py, rfl, hpy⟩ := h5.word
          refine ⟨_, rfl, _, _, _, true, rfl, .base (.tup hq), by decide +kernel, _, rfl, ifF (by simp) ?_⟩
          refine ⟨_, rfl, q, _, rfl, .inr (SqT.of hq), rfl, _, rfl, ifF (by simp) ?_⟩
          refine ⟨_, rfl, q, _, _, _, rfl, rfl, SqT.of hq, rfl, rfl, _, rfl, ifF (by simp) ?_⟩
          refine ⟨_, rfl, q, _, _, _, rfl, rfl, SqT.of hq, rfl, _, rfl, _, x, rfl, h3, fun b1 hb1 => ⟨_, rfl, ?_⟩⟩
          have no : ∀ {P : Prop} [Decidable P], P = (x ∈ R ∧ y ∈ W ∧ x ∈ ws ∧ y ∈ ws ∧ rwN lk x = rwN lk y) → ¬ P → Q (.bl false) H := fun {P} _ e n => by
            have : isBad lk ws R W (.bad x y) = false := decide_eq_false (by rw [← e]; exact n)
            rw [this] at k
            exact k
          have no : ¬ (x ∈ R ∧ y ∈ W ∧ x ∈ ws ∧ y ∈ ws ∧ rwN lk x = rwN lk y) → Q (.bl false) H := no rfl
          cases b1 with
          | false => exact no fun z => by have := hb1.mpr (bR x z.1); cases this
          | true =>
          refine ⟨_, rfl, q, _, _, _, rfl, rfl, SqT.of hq, rfl, _, rfl, _, y, rfl, h5, fun b2 hb2 => ⟨_, rfl, ?_⟩⟩
          cases b2 with
          | false => exact no fun z => by have := hb2.mpr (bW y z.2.1); cases this
          | true =>
          refine ⟨_, rfl, q, _, _, _, rfl, rfl, SqT.of hq, rfl, _, rfl, c, _, _, _, rfl, rfl, SqT.of hc, rfl, wd x, cr, rs, _, h3, rfl, .inl hcr, dr, Nat.le_trans (wd_deep x) (by decide), fun b hb => ⟨_, rfl, ?_⟩⟩
          rw [mem_wd] at hb
          refine ite2 (fun e => no fun z => hb.mp e z.1) (fun e1 => ?_)
          have xR : x ∈ R := Classical.byContradiction fun z => e1 (hb.mpr z)
          refine ⟨_, rfl, q, _, _, _, rfl, rfl, SqT.of hq, rfl, _, rfl, c, _, _, _, rfl, rfl, SqT.of hc, rfl, wd y, cw, us, _, h5, rfl, .inl hcw, dw, Nat.le_trans (wd_deep y) (by decide), fun b hb => ⟨_, rfl, ?_⟩⟩
          rw [mem_wd] at hb
          refine ite2 (fun e => no fun z => hb.mp e z.2.1) (fun e2 => ?_)
          have yW : y ∈ W := Classical.byContradiction fun z => e2 (hb.mpr z)
          have kx : H px = some (.tup ((ky x).map kV)) := by rw [ky_vs]; exact hpx
          have kyy : H py = some (.tup ((ky y).map kV)) := by rw [ky_vs]; exact hpy
          have gx := DGet.t S.giv kx
          have gy := DGet.t S.giv kyy
          by_cases xw : x ∈ ws
          · rw [val_given xw] at gx
            refine ⟨_, rfl, q, _, _, _, rfl, rfl, SqT.of hq, rfl, _, rfl, a.p, CR, a.dx, _, _, rfl, S.obj, T.cl, T.nG, lkG, a.g, _, rfl, gx, _, rfl, ifF (by simp) ?_⟩
            by_cases yw : y ∈ ws
            · rw [val_given yw] at gy
              refine ⟨_, rfl, q, _, _, _, rfl, rfl, SqT.of hq, rfl, _, rfl, a.p, CR, a.dx, _, _, rfl, S.obj, T.cl, T.nG, lkG, a.g, _, rfl, gy, _, rfl, ifF (by simp) ?_⟩
              refine ⟨_, rfl, a.p, CR, a.dx, _, _, rfl, S.obj, T.cl, T.nG, lkG, _, rfl, q, _, _, _, rfl, rfl, SqT.of hq, rfl, a.g, _, rfl, gx, _, rfl, a.p, CR, a.dx, _, _, rfl, S.obj, T.cl, T.nG, lkG, _, rfl, q, _, _, _, rfl, rfl, SqT.of hq, rfl, a.g, _, rfl, gy, rfl, ?_⟩
              have e : isBad lk ws R W (.bad x y) = decide (V.int ((rwN lk x : Nat) : Int) = V.int ((rwN lk y : Nat) : Int)) := by
                unfold isBad
                rw [Bool.eq_iff_iff, decide_eq_true_eq, decide_eq_true_eq]
                exact ⟨fun z => by rw [z.2.2.2.2], fun z => ⟨xR, yW, xw, yw, by injection z with z; omega⟩⟩
              rw [e] at k
              exact k
            · rw [val_given_no yw] at gy
              exact ⟨_, rfl, q, _, _, _, rfl, rfl, SqT.of hq, rfl, _, rfl, a.p, CR, a.dx, _, _, rfl, S.obj, T.cl, T.nG, lkG, a.g, _, rfl, gy, _, rfl, ifT (by simp) (no fun z => yw z.2.2.2.1)⟩
          · rw [val_given_no xw] at gx
            exact ⟨_, rfl, q, _, _, _, rfl, rfl, SqT.of hq, rfl, _, rfl, a.p, CR, a.dx, _, _, rfl, S.obj, T.cl, T.nG, lkG, a.g, _, rfl, gx, _, rfl, ifT (by simp) (no fun z => xw z.2.2.1)⟩
end
end Toy

set_option Elab.async false
set_option linter.all false
set_option maxRecDepth 100000
set_option maxHeartbeats 4000000
namespace Toy
open PySem L2
def ext (k : Lk) (w : List Nat) (s : Nat) : Lk := if w = [] then k else k.put (rwN k w.dropLast) (lst w) s
def trys : Tr → Option (List Tr)
  | .try_ ts => some ts
  | _ => none
def acc (R W : List (List Nat)) (most : Nat) : List (List Nat) → List (List Nat) → Lk → Tr → Bool
  | [], _, _, _ => false
  | w :: rest, ws, k, t => match forcedN k w with
    | some s => if (clash (ext k w s) (ws ++ [w]) R W s).isSome = true then isBad (ext k w s) (ws ++ [w]) R W t else acc R W most rest (ws ++ [w]) (ext k w s) t
    | none => match trys t with
      | some ts => decide (ts.length = min (usd k ws + 1) most) && ts.zipIdx.all fun p =>
          if (clash (ext k w p.2) (ws ++ [w]) R W p.2).isSome = true then isBad (ext k w p.2) (ws ++ [w]) R W p.1 else acc R W most rest (ws ++ [w]) (ext k w p.2) p.1
      | none => false
theorem acc_some {R W : List (List Nat)} {most : Nat} {rest ws : List (List Nat)} {w : List Nat} {k : Lk} {t : Tr} {s : Nat} (h : forcedN k w = some s) :
    acc R W most (w :: rest) ws k t = if (clash (ext k w s) (ws ++ [w]) R W s).isSome = true then isBad (ext k w s) (ws ++ [w]) R W t else acc R W most rest (ws ++ [w]) (ext k w s) t := by
  rw [acc, h]
theorem acc_no {R W : List (List Nat)} {most : Nat} {rest ws : List (List Nat)} {w : List Nat} {k : Lk} {t : Tr} (h : forcedN k w = none) (ht : trys t = none) : acc R W most (w :: rest) ws k t = false := by
  rw [acc, h, ht]
theorem acc_try {R W : List (List Nat)} {most : Nat} {rest ws : List (List Nat)} {w : List Nat} {k : Lk} {ts : List Tr} (h : forcedN k w = none) :
    acc R W most (w :: rest) ws k (.try_ ts) = (decide (ts.length = min (usd k ws + 1) most) && ts.zipIdx.all fun p =>
      if (clash (ext k w p.2) (ws ++ [w]) R W p.2).isSome = true then isBad (ext k w p.2) (ws ++ [w]) R W p.1 else acc R W most rest (ws ++ [w]) (ext k w p.2) p.1) := by
  rw [acc, h]
  rfl
theorem noM {g l u r w : V} {m : Str} (h1 : (m == ("given" : Str)) = false) (h2 : (m == ("links" : Str)) = false) (h3 : (m == ("used" : Str)) = false) (h4 : (m == ("right_at" : Str)) = false) (h5 : (m == ("wrong_at" : Str)) = false) : List.lookup m (rfs g l u r w) = none := by
  simp [rfs, List.lookup, h1, h2, h3, h4, h5]
theorem noF {g l u r w : V} : List.lookup ("forced" : Str) (rfs g l u r w) = none := noM (by decide +kernel) (by decide +kernel) (by decide +kernel) (by decide +kernel) (by decide +kernel)
theorem noGi {g l u r w : V} : List.lookup ("give" : Str) (rfs g l u r w) = none := noM (by decide +kernel) (by decide +kernel) (by decide +kernel) (by decide +kernel) (by decide +kernel)
theorem noC {g l u r w : V} : List.lookup ("copied" : Str) (rfs g l u r w) = none := noM (by decide +kernel) (by decide +kernel) (by decide +kernel) (by decide +kernel) (by decide +kernel)
structure Pre (full : List (List Nat)) : Prop where
  nd : full.Nodup
  few : full.length ≤ 900
  pre : ∀ ws w rest, full = ws ++ w :: rest → w = [] ∨ w.dropLast ∈ ws
theorem Pre.fresh {full ws rest : List (List Nat)} {w : List Nat} (p : Pre full) (e : full = ws ++ w :: rest) : w ∉ ws := by
  have := p.nd
  rw [e] at this
  intro h
  exact (List.nodup_append.mp this).2.2 w h w (by simp) rfl
theorem Pre.step {full ws rest : List (List Nat)} {w : List Nat} {s : Nat} {k : Lk} (p : Pre full) (e : full = ws ++ w :: rest) (h : forcedN k w = none ∨ forcedN k w = some s) : Step k (ext k w s) ws w s := by
  refine ⟨p.fresh e, fun z => ?_, fun z => ?_⟩
  · subst z
    refine ⟨?_, if_pos rfl⟩
    rcases h with h | h
    · cases h
    · injection h with h; exact h.symm
  · refine ⟨(p.pre _ _ _ e).resolve_left z, if_neg z, ?_⟩
    unfold forcedN at h
    rw [if_neg z] at h
    exact h
theorem SI.kinds {CR : Addr} {H : Hp} {a : Ad} {k : Lk} {ws R W : List (List Nat)} (S : SI CR H a k ws R W) {b : Addr} {o : HO} (e : H b = some o) (h1 : ∀ C d f, o ≠ .ins C d f) (h2 : ∀ m, o ≠ .dT m) (h3 : ∀ m, o ≠ .dK m) : b ∉ a.fp := by
  obtain ⟨m, hm, _⟩ := S.lks
  obtain ⟨mr, hmr, _⟩ := S.ra
  obtain ⟨mw, hmw, _⟩ := S.wa
  intro hb
  simp only [Ad.fp, List.mem_cons, List.not_mem_nil, or_false] at hb
  rcases hb with rfl | rfl | rfl | rfl | rfl
  · rw [S.obj] at e; exact h1 _ _ _ (Option.some.inj e).symm
  · rw [S.giv] at e; exact h2 _ (Option.some.inj e).symm
  · rw [hm] at e; exact h2 _ (Option.some.inj e).symm
  · rw [hmr] at e; exact h3 _ (Option.some.inj e).symm
  · rw [hmw] at e; exact h3 _ (Option.some.inj e).symm
theorem SI.tups {CR : Addr} {H H' : Hp} {a : Ad} {k : Lk} {ws R W : List (List Nat)} (S : SI CR H a k ws R W) (o : Out a.fp H H') : Tups H H' := fun b xs e =>
  o b _ (S.kinds e (fun _ _ _ z => nomatch z) (fun _ z => nomatch z) (fun _ z => nomatch z)) e
theorem SI.lst {CR : Addr} {H H' : Hp} {a : Ad} {k : Lk} {ws R W : List (List Nat)} (S : SI CR H a k ws R W) (o : Out a.fp H H') {b : Addr} {xs : List V} (e : H b = some (.lst xs)) : H' b = some (.lst xs) :=
  o b _ (S.kinds e (fun _ _ _ z => nomatch z) (fun _ z => nomatch z) (fun _ z => nomatch z)) e
theorem SI.same {CR : Addr} {H H' : Hp} {a : Ad} {k : Lk} {ws R W : List (List Nat)} (S : SI CR H a k ws R W) (s : Same H H') : SI CR H' a k ws R W := by
  obtain ⟨m, hm, ml, mv⟩ := S.lks
  obtain ⟨mr, hmr, ar⟩ := S.ra
  obtain ⟨mw, hmw, aw⟩ := S.wa
  have ar : atM H mr k ws R := ar
  have aw : atM H mw k ws W := aw
  exact ⟨s _ _ S.obj, s _ _ S.giv, S.all, S.nd, S.few, ⟨m, s _ _ hm, ml, mv⟩, ⟨mr, s _ _ hmr, ar.mono (same_tp s)⟩, ⟨mw, s _ _ hmw, aw.mono (same_tp s)⟩, S.gl, S.rw⟩
def spBars (CR : Addr) : Nat → Sp
  | 0 => fun _ _ _ _ => False
  | n + 1 => fun vs H Q _ => ∃ a k ws rest full R W q us u t tr most, vs = [.ref a.p, .ref q, u, .int ((most : Nat) : Int), t, .int 2] ∧ SI CR H a k ws R W ∧ full = ws ++ rest ∧ rest.length ≤ n ∧ Pre full ∧ H q = some (.lst us) ∧ DVs H us (full.map wd) ∧
    DV H u (sampD R W) ∧ DV H t (Tr.da tr) ∧ Bin R ∧ Bin W ∧ ∀ H', Out a.fp H H' → Q (.bl (acc R W most rest ws k tr)) H'
theorem clash_isSome {H : Hp} {x : V} {c : Option (List Nat × List Nat)} (h : clashV H x c) : (x = .non ↔ c.isSome = false) := by
  cases c with
  | none => exact ⟨fun _ => rfl, fun _ => h⟩
  | some p =>
    obtain ⟨a, b⟩ := p
    obtain ⟨q, xs, rfl, _⟩ := (show DV H x (.tup [wd a, wd b]) from h).inv
    exact Iff.intro (fun z => by cases z) (fun z => by cases z)
section
variable {P : Program} {w : World} {K : PySem.W.Frag} {mg : Str → Option Value} {base : Heap} {CR : Addr}
abbrev s_bars : Stmt := top 21
theorem sc_bars : FnScope ["state", "words", "samples", "most", "tree", "base", "at", "row", "inner", "other"] ["state", "words", "samples", "most", "tree", "base"] (defScope s_bars) := ⟨rfl, rfl, rfl, by decide +kernel, rfl, by decide +kernel, by decide +kernel⟩

theorem ok_bars {n : Nat} {f : Addr} {fd : FuncData} (F : Fun K "bars" "bars" s_bars f fd) (T : Txt K mg CR) (M_forced : MetX P w K mg base CX0 1 CR "forced" (spForced CR)) (M_give : MetX P w K mg base CX0 1 CR "give" (spGive CR)) (M_copied : MetX P w K mg base CX0 3 CR "copied" (spCopied CR))
    (C_is_bad : CalX P w K mg base CX0 3 "is_bad" (spIsBad CR)) (C_bars : CalX P w K mg base CX0 (n + 3) "bars" (spBars CR n)) : FnOk P w K mg base CX0 (n + 4) f fd ["state", "words", "samples", "most", "tree", "base"] (spBars CR (n + 1)) := by
  refine F.ok sc_bars (fun vs H Q E h => ?_) (fun cdv A outer s H vs Q E hr h => ?_)
  · obtain ⟨a, k, ws, rest, full, R, W, q, us, u, t, tr, most, rfl, _⟩ := h
    rfl
  obtain ⟨a, k0, ws0, rest0, full, R, W, q, us, u, t, tr, most, rfl, S0, ef0, hn, pf, hq, hus, hu, ht, bR, bW, kk⟩ := h
  have hr : Room (n + 3) _ := hr
  have hul := hus.length
  rw [List.length_map] at hul
  refine ⟨_, (pss_cons (ps_set (i := 6) sc_bars.nd rfl (Or.inl rfl) (pe_callB call_len_dT (by rfl) T.z_len b_len (pa_cons (pe_fld (pv 0) rfl) pa_nil)))
    (C8.pss_cut (ps_while PassesOwn.never (pt_cmpR op_lt (pv 6) (pe_callB call_len_seq (by rfl) T.z_len b_len (pa_cons (pv 1) pa_nil)) (nomark _)) (pss_cons (ps_set (i := 7) sc_bars.nd rfl (Or.inl rfl) (pe_me M_forced hr (by omega) pass0 (pv 0) (pa_cons (pe_ix ix_list (pv 1) (pv 6) (fun _ _ => rfl)) pa_nil)))
    (pss_cons (ps_if (pt_cmpR op_isN (pv 7) pe_non (nomark _)) (pss_one ps_break) pss_nil)
    (pss_cons (ps_if (pt_cmpR op_notN (pe_me M_give hr (by omega) pass0 (pv 0) (pa_cons (pe_ix ix_list (pv 1) (pv 6) (fun _ _ => rfl)) (pa_cons (pv 7) (pa_cons (pv 2) pa_nil)))) pe_non (nomark _)) (pss_one (ps_ret (pe_u C_is_bad hr (by omega) pass0 (pa_cons (pv 0) (pa_cons (pv 2) (pa_cons (pv 4) (pa_cons (pv 5) pa_nil))))))) pss_nil)
    (pss_one (ps_aug (i := 6) sc_bars.nd rfl (Or.inl rfl) pe_int ip_add))))))
    (pss_cons (ps_if (PW.pt (pw_or (pt_cmpR op_eq (pv 6) (pe_callB call_len_seq (by rfl) T.z_len b_len (pa_cons (pv 1) pa_nil)) (nomark _)) (pw_or (pt_not (pt_val (pe_callB call_isi2 (by rfl) T.z_isinstance b_isinstance (pa_cons (pv 4) (pa_cons (pe_bltn (v := .ty "tuple") (by rfl) T.z_tuple b_tuple rfl) pa_nil))))) (pw_or (pt_cmpR op_ne (pe_callB call_len_seq (by rfl) T.z_len b_len (pa_cons (pv 4) pa_nil)) pe_int (nomark _)) (pw_or1 (pt_cmpR op_ne (pe_ix ix_tup (pv 4) pe_int (fun _ _ => rfl)) pe_str (nomark _))))))) (pss_one (ps_ret pe_bl)) pss_nil)
    (pss_cons (ps_if (PW.pt (pw_or (pt_not (pt_val (pe_callB call_isi2 (by rfl) T.z_isinstance b_isinstance (pa_cons (pe_ix ix_tup (pv 4) pe_int (fun _ _ => rfl)) (pa_cons (pe_bltn (v := .ty "tuple") (by rfl) T.z_tuple b_tuple rfl) pa_nil))))) (pw_or1 (pt_cmpR op_ne (pe_callB call_len_seq (by rfl) T.z_len b_len (pa_cons (pe_ix ix_tup (pv 4) pe_int (fun _ _ => rfl)) pa_nil)) (pe_callB (call_min2 rfl) (by rfl) T.z_min b_min (pa_cons (pe_op op_add (pe_fld (pv 0) rfl) pe_int) (pa_cons (pv 3) pa_nil))) (nomark _))))) (pss_one (ps_ret pe_bl)) pss_nil)
    (pss_cons (ps_for PassesOwn.never rfl (pi_enumT (by rfl) T.z_enumerate (pa_cons (pe_ix ix_tup (pv 4) pe_int (fun _ _ => rfl)) pa_nil)) (pg_tup (by rfl) (pgs_cons (pg_name (i := 7) sc_bars.nd rfl (Or.inl rfl)) (pgs_cons (pg_name (i := 8) sc_bars.nd rfl (Or.inl rfl)) pgs_nil))) (pss_cons (ps_set (i := 9) sc_bars.nd rfl (Or.inl rfl) (pe_me0 M_copied hr (by omega) pass0 (pv 0)))
    (pss_one (ps_if (pt_cmpR op_notN (pe_me M_give hr (by omega) pass0 (pv 9) (pa_cons (pe_ix ix_list (pv 1) (pv 6) (fun _ _ => rfl)) (pa_cons (pv 7) (pa_cons (pv 2) pa_nil)))) pe_non (nomark _)) (pss_one (ps_if (pt_not (pt_val (pe_u C_is_bad hr (by omega) pass0 (pa_cons (pv 9) (pa_cons (pv 2) (pa_cons (pv 8) (pa_cons (pv 5) pa_nil))))))) (pss_one (ps_ret pe_bl)) pss_nil)) (pss_one (ps_if (pt_not (pt_val (pe_u C_bars hr (by omega) pass0 (pa_cons (pv 9) (pa_cons (pv 1) (pa_cons (pv 2) (pa_cons (pv 3) (pa_cons (pv 8) (pa_cons (pv 5) pa_nil))))))))) (pss_one (ps_ret pe_bl)) pss_nil))))))
    (pss_one (ps_ret pe_bl))))))), ?_⟩
  refine ⟨_, rfl, a.p, CR, a.dx, _, _, rfl, S0.obj, T.cl, T.nG, lkG, a.g, _, rfl, S0.giv, ?_⟩
  refine ⟨fun σ' H' => ∃ k ws rest g7, σ' = [some (.ref a.p), some (.ref q), some u, some (.int ((most : Nat) : Int)), some t, some (.int 2), some (.int ((ws.length : Nat) : Int)), g7, none, none] ∧ SI CR H' a k ws R W ∧ full = ws ++ rest ∧ rest.length ≤ n ∧ Out a.fp H H' ∧ acc R W most rest ws k tr = acc R W most rest0 ws0 k0 tr ∧ (rest = [] ∨ ∃ w r, rest = w :: r ∧ forcedN k w = none), ?_, ?_⟩
  · refine wh (fun (b : Lk × List (List Nat) × List (List Nat)) σ' H' => ∃ g7, σ' = [some (.ref a.p), some (.ref q), some u, some (.int ((most : Nat) : Int)), some t, some (.int 2), some (.int ((b.2.1.length : Nat) : Int)), g7, none, none] ∧ SI CR H' a b.1 b.2.1 R W ∧ full = b.2.1 ++ b.2.2 ∧ b.2.2.length ≤ n ∧ Out a.fp H H' ∧ acc R W most b.2.2 b.2.1 b.1 tr = acc R W most rest0 ws0 k0 tr)
      (fun b => b.2.2.length) (k0, ws0, rest0) ⟨_, by rw [List.length_map]; rfl, S0, ef0, hn, .refl, rfl⟩ ?_
    rintro ⟨k, ws, rest⟩ σ' H' ⟨g7, rfl, S, ef, hle, oo, ea⟩
    have S : SI CR H' a k ws R W := S
    have ef : full = ws ++ rest := ef
    have hle : rest.length ≤ n := hle
    have ea : acc R W most rest ws k tr = acc R W most rest0 ws0 k0 tr := ea
    have hq' := S0.lst oo hq
    have tp := S0.tups oo
    refine ⟨_, rfl, _, rfl, q, us, rfl, .inl (SqL.of hq'), _, _, rfl, rfl, _, rfl, ?_⟩
    cases rest with
    | nil =>
      refine ifF ?_ ⟨k, ws, [], g7, rfl, S, ef, hle, oo, ea, .inl rfl⟩
      rw [hul, ef]
      simp
    | cons w rest =>
      refine ifT ?_ ⟨whN _ (fun b => b.2.2.length) (k, ws, w :: rest), whN_ok, ?_⟩
      · rw [hul, ef]
        simp; omega
      have hw : full[ws.length]? = some w := by rw [ef, List.getElem?_append_right (Nat.le_refl _)]; simp
      obtain ⟨wv, hwv, dwv⟩ := hus.at (i := ws.length) (p := wd w) (by rw [List.getElem?_map, hw]; rfl)
      have dwv' := dwv.mono tp
      refine ⟨_, rfl, a.p, a.dx, _, rfl, S.obj, noF, _, rfl, _, rfl, q, _, _, _, rfl, rfl, SqL.of hq', atI_nat hwv, a, k, ws, R, W, wv, w, rfl, S, dwv', pf.pre _ _ _ ef, fun H2 s2 => ?_⟩
      cases fc : forcedN k w with
      | none =>
        refine ⟨_, rfl, rfl, _, rfl, ifT rfl ?_⟩
        exact ⟨k, ws, w :: rest, _, rfl, S.same s2, ef, hle, oo.trans (out_same s2), ea, .inr ⟨w, rest, rfl, fc⟩⟩
      | some sr =>
        have S2 := S.same s2
        have oo2 := oo.trans (out_same s2)
        have st : Step k (ext k w sr) ws w sr := pf.step ef (.inr fc)
        refine ⟨_, rfl, rfl, _, rfl, ifF (by simp [optV]) ?_⟩
        refine ⟨_, rfl, a.p, a.dx, _, rfl, S2.obj, noGi, _, rfl, _, rfl, q, _, _, _, rfl, rfl, SqL.of (s2 _ _ hq'), atI_nat hwv, _, rfl, _, rfl, a, k, ext k w sr, ws, R, W, wv, w, sr, u, rfl, S2, dwv'.mono (same_tp s2), (hu.mono tp).mono (same_tp s2), st, ?_, fun x H3 S3 o3 cv => ?_⟩
        · have := pf.few
          rw [ef, List.length_append] at this
          omega
        have ci := clash_isSome cv
        have ea' : acc R W most (w :: rest) ws k tr = if (clash (ext k w sr) (ws ++ [w]) R W sr).isSome = true then isBad (ext k w sr) (ws ++ [w]) R W tr else acc R W most rest (ws ++ [w]) (ext k w sr) tr := by
          exact acc_some fc
        refine ⟨rfl, _, rfl, ?_⟩
        by_cases hx : x = .non
        · have cf := ci.mp hx
          refine ifF (by simp [hx]) ?_
          refine ⟨_, rfl, _, _, rfl, rfl, (ext k w sr, ws ++ [w], rest), ?_, some (.int ((sr : Nat) : Int)), ?_, S3, ?_, ?_, oo2.trans o3, ?_⟩
          · show rest.length < (w :: rest).length
            rw [List.length_cons]; omega
          · have e1 : (((ws ++ [w]).length : Nat) : Int) = ((ws.length : Nat) : Int) + 1 := by rw [List.length_append, List.length_singleton]; omega
            show _ = [some (.ref a.p), some (.ref q), some u, some (.int ((most : Nat) : Int)), some t, some (.int 2), some (.int (((ws ++ [w]).length : Nat) : Int)), some (.int ((sr : Nat) : Int)), none, none]
            rw [e1]
            rfl
          · show full = (ws ++ [w]) ++ rest
            rw [ef]; simp
          · show rest.length ≤ n
            rw [List.length_cons] at hle; omega
          · show acc R W most rest (ws ++ [w]) (ext k w sr) tr = _
            rw [← ea, ea', cf]
            rfl
        · have ct : (clash (ext k w sr) (ws ++ [w]) R W sr).isSome = true := by
            cases c : (clash (ext k w sr) (ws ++ [w]) R W sr).isSome with
            | true => rfl
            | false => exact absurd (ci.mpr c) hx
          refine ifT (by simp [hx]) ?_
          have t3 := S2.tups o3
          have tA : Tups H H3 := (tp.trans (same_tp s2)).trans t3
          refine ⟨_, rfl, _, rfl, _, rfl, _, rfl, a, _, _, R, W, u, t, tr, rfl, S3, hu.mono tA, ht.mono tA, bR, bW, ?_⟩
          have := kk H3 (oo2.trans o3)
          rw [← ea, ea', if_pos ct] at this
          exact this
  · rintro σ' H' ⟨k, ws, rest, g7, rfl, S, ef, hle, oo, ea, hrest⟩
    rw [← ea] at kk
    have tp := S0.tups oo
    have hq' := S0.lst oo hq
    have ht' := ht.mono tp
    have hu' := hu.mono tp
    have kk' := kk H' oo
    rcases hrest with rfl | ⟨w, r, rfl, fc⟩
    · refine ⟨_, rfl, _, rfl, q, us, rfl, .inl (SqL.of hq'), rfl, _, rfl, ifT ?_ kk'⟩
      rw [hul, ef]
      simp
    refine ⟨_, rfl, _, rfl, q, us, rfl, .inl (SqL.of hq'), rfl, _, rfl, ifF ?_ ?_⟩
    · rw [hul, ef]
      simp; omega
    have no : trys tr = none → Q (.bl false) H' := fun h => by
      rw [acc_no fc h] at kk'
      exact kk'
    cases tr with
    | non =>
      cases ht'
      exact ⟨_, rfl, _, _, _, false, rfl, .base .non, by decide +kernel, _, rfl, ifT rfl (no rfl)⟩
    | fits =>
      obtain ⟨qt, xs, rfl, hqt, hx⟩ := ht'.inv
      have hl := hx.length
      refine ⟨_, rfl, _, _, _, true, rfl, .base (.tup hqt), by decide +kernel, _, rfl, ifF (by simp) ?_⟩
      exact ⟨_, rfl, qt, _, rfl, .inr (SqT.of hqt), rfl, _, rfl, ifT (by rw [hl]; decide) (no rfl)⟩
    | bad x y =>
      obtain ⟨qt, xs, rfl, hqt, hx⟩ := ht'.inv
      have hl := hx.length
      refine ⟨_, rfl, _, _, _, true, rfl, .base (.tup hqt), by decide +kernel, _, rfl, ifF (by simp) ?_⟩
      exact ⟨_, rfl, qt, _, rfl, .inr (SqT.of hqt), rfl, _, rfl, ifT (by rw [hl]; show (!decide (V.int 3 = V.int 2)) = true; decide) (no rfl)⟩
    | bad1 x =>
      obtain ⟨qt, xs, rfl, hqt, hx⟩ := ht'.inv
      cases hx with
      | cons h1 h2 =>
        cases h2 with
        | cons h3 h4 =>
          cases h4
          cases h1
          refine ⟨_, rfl, _, _, _, true, rfl, .base (.tup hqt), by decide +kernel, _, rfl, ifF (by simp) ?_⟩
          refine ⟨_, rfl, qt, _, rfl, .inr (SqT.of hqt), rfl, _, rfl, ifF (by simp) ?_⟩
          refine ⟨_, rfl, qt, _, _, _, rfl, rfl, SqT.of hqt, rfl, rfl, _, rfl, ifT (by decide +kernel) (no rfl)⟩
    | try_ ts =>
      obtain ⟨qt, xs, rfl, hqt, hx⟩ := ht'.inv
      cases hx with
      | cons h1 h2 =>
        cases h2 with
        | cons h3 h4 =>
          cases h4
          cases h1
          obtain ⟨qs, vs, rfl, hqs, hvs⟩ := h3.inv
          have hvl := hvs.length
          rw [das_map, List.length_map] at hvl
          refine ⟨_, rfl, _, _, _, true, rfl, .base (.tup hqt), by decide +kernel, _, rfl, ifF (by simp) ?_⟩
          refine ⟨_, rfl, qt, _, rfl, .inr (SqT.of hqt), rfl, _, rfl, ifF (by simp) ?_⟩
          refine ⟨_, rfl, qt, _, _, _, rfl, rfl, SqT.of hqt, rfl, rfl, _, rfl, ifF (by simp) ?_⟩
          refine ⟨_, rfl, qt, _, _, _, rfl, rfl, SqT.of hqt, rfl, _, _, _, true, rfl, .base (.tup hqs), by decide +kernel, _, rfl, ifF (by simp) ?_⟩
          refine ⟨_, rfl, qt, _, _, _, rfl, rfl, SqT.of hqt, rfl, qs, vs, rfl, .inr (SqT.of hqs), _, rfl, a.p, CR, a.dx, _, _, rfl, S.obj, T.cl, T.nU, lkU, _, _, rfl, rfl, _, rfl, _, _, rfl, rfl, _, rfl, ?_⟩
          have em : (if ((most : Nat) : Int) < ((usd k ws : Nat) : Int) + 1 then ((most : Nat) : Int) else ((usd k ws : Nat) : Int) + 1) = ((min (usd k ws + 1) most : Nat) : Int) := by
            split <;> omega
          rw [em]
          have ae := acc_try (R := R) (W := W) (most := most) (rest := r) (ws := ws) (ts := ts) fc
          by_cases hlen : ts.length = min (usd k ws + 1) most
          · refine ifF (by rw [hvl, hlen]; simp) ?_
            rw [decide_eq_true hlen, Bool.true_and] at ae
            have hw : full[ws.length]? = some w := by rw [ef, List.getElem?_append_right (Nat.le_refl _)]; simp
            obtain ⟨wv, hwv, dwv⟩ := hus.at (i := ws.length) (p := wd w) (by rw [List.getElem?_map, hw]; rfl)
            refine ⟨_, rfl, qt, _, _, _, rfl, rfl, SqT.of hqt, rfl, qs, vs, rfl, SqT.of hqs, for_it (walk_enumT (K := K) (a := qs) (xs := vs)) (fun i σ H2 => Same H' H2 ∧ (∃ g7 g8 g9, σ = [some (.ref a.p), some (.ref q), some u, some (.int ((most : Nat) : Int)), some (.ref qt), some (.int 2), some (.int ((ws.length : Nat) : Int)), g7, g8, g9]) ∧
              ∀ j (hj : j < ts.length), j < i → (if (clash (ext k w j) (ws ++ [w]) R W j).isSome = true then isBad (ext k w j) (ws ++ [w]) R W ts[j] else acc R W most r (ws ++ [w]) (ext k w j) ts[j]) = true) ⟨Same.refl _, ⟨_, _, _, rfl⟩, fun j hj z => absurd z (Nat.not_lt_zero _)⟩ (fun i σ H2 _ h => SqT.of (h.1 _ _ hqs)) (fun i x σ H2 H3 hi h y => ?_) (fun σ H2 h => ?_)⟩
            · obtain ⟨s2, ⟨g7', g8, g9, rfl⟩, done⟩ := h
              obtain ⟨Tp, e1, e2, rfl, hT, rfl, y1, y2⟩ := y
              obtain rfl := Option.some.inj y1
              have hi2 : i < ts.length := by omega
              obtain ⟨p2, hp2, dt⟩ := hvs.get y2
              rw [das_map, List.getElem?_map, List.getElem?_eq_getElem hi2] at hp2
              obtain rfl := Option.some.inj hp2
              have s3 : Same H' (upd H2 Tp (.tup [.int ((i : Nat) : Int), e2])) := s2.trans (Same.upd hT)
              have hTp : upd H2 Tp (.tup [.int ((i : Nat) : Int), e2]) Tp = some (.tup [.int ((i : Nat) : Int), e2]) := upd_same
              generalize upd H2 Tp (.tup [.int ((i : Nat) : Int), e2]) = H3 at s3 hTp ⊢
              refine ⟨Tp, _, rfl, SqT.of hTp, rfl, _, _, rfl, _, _, rfl, rfl, ?_⟩
              have S3 := S.same s3
              refine ⟨_, rfl, a.p, a.dx, _, rfl, S3.obj, noC, a, k, ws, R, W, rfl, S3, fun a2 H4 s4 S4 fr4 => ?_⟩
              have s34 := s3.trans s4
              have st : Step k (ext k w i) ws w i := pf.step ef (.inl fc)
              have dwv4 := (dwv.mono tp).mono (same_tp s34)
              have hq4 := s34 _ _ hq'
              refine ⟨_, rfl, a2.p, a2.dx, _, rfl, S4.obj, noGi, _, rfl, _, rfl, q, _, _, _, rfl, rfl, SqL.of hq4, atI_nat hwv, _, rfl, _, rfl, a2, k, ext k w i, ws, R, W, wv, w, i, u, rfl, S4, dwv4, hu'.mono (same_tp s34), st, ?_, fun x H5 S5 o5 cv => ?_⟩
              · have := pf.few
                rw [ef, List.length_append, List.length_cons] at this
                omega
              have fresh2 : ∀ b ∈ a2.fp, H' b = none := fun b hb => by
                have := fr4 b hb
                cases c : H' b with
                | none => rfl
                | some o => rw [s3 _ _ c] at this; cases this
              have s45 : ∀ {H6 : Hp}, Out a2.fp H4 H6 → Same H' H6 := fun {H6} o b v e => o b v (fun z => by rw [fresh2 b z] at e; cases e) (s34 b v e)
              have s5 := s45 o5
              have dt5 := dt.mono (same_tp s5)
              have hu5 := hu'.mono (same_tp s5)
              have ci := clash_isSome cv
              refine ⟨rfl, _, rfl, ?_⟩
              have allF : ∀ {c : Bool}, (if (clash (ext k w i) (ws ++ [w]) R W i).isSome = true then isBad (ext k w i) (ws ++ [w]) R W ts[i] else acc R W most r (ws ++ [w]) (ext k w i) ts[i]) = c → c = false → acc R W most (w :: r) ws k (.try_ ts) = false := fun {c} e1 e2 => by
                rw [ae, List.all_eq_false]
                refine ⟨(ts[i], i), ?_, ?_⟩
                · rw [List.mem_zipIdx_iff_getElem?]
                  exact List.getElem?_eq_getElem hi2
                · rw [e1, e2]; decide
              have go : ∀ {H6 : Hp} {σ6 : St}, Same H' H6 → (∃ g7 g8 g9, σ6 = [some (.ref a.p), some (.ref q), some u, some (.int ((most : Nat) : Int)), some (.ref qt), some (.int 2), some (.int ((ws.length : Nat) : Int)), g7, g8, g9]) → (if (clash (ext k w i) (ws ++ [w]) R W i).isSome = true then isBad (ext k w i) (ws ++ [w]) R W ts[i] else acc R W most r (ws ++ [w]) (ext k w i) ts[i]) = true →
                  Same H' H6 ∧ (∃ g7 g8 g9, σ6 = [some (.ref a.p), some (.ref q), some u, some (.int ((most : Nat) : Int)), some (.ref qt), some (.int 2), some (.int ((ws.length : Nat) : Int)), g7, g8, g9]) ∧ ∀ j (hj : j < ts.length), j < i + 1 → (if (clash (ext k w j) (ws ++ [w]) R W j).isSome = true then isBad (ext k w j) (ws ++ [w]) R W ts[j] else acc R W most r (ws ++ [w]) (ext k w j) ts[j]) = true :=
                fun {H6 σ6} a b c => ⟨a, b, fun j hj lt => by
                  by_cases e : j = i
                  · subst e; exact c
                  · exact done j hj (by omega)⟩
              by_cases hx : x = .non
              · have cf := ci.mp hx
                refine ifF (by simp [hx]) ?_
                obtain ⟨n', rfl⟩ : ∃ n', n = n' + 1 := ⟨n - 1, by rw [List.length_cons] at hle; omega⟩
                refine ⟨_, rfl, _, rfl, _, rfl, _, rfl, _, rfl, _, rfl, a2, _, _, r, full, R, W, q, us, u, _, ts[i], most, rfl, S5, by rw [ef]; simp, by rw [List.length_cons] at hle; omega, pf, s5 _ _ hq', (hus.mono tp).mono (same_tp s5), hu5, dt5, bR, bW, fun H6 o6 => ⟨_, rfl, ?_⟩⟩
                have s6 := s45 (o5.trans o6)
                cases bd : acc R W most r (ws ++ [w]) (ext k w i) ts[i] with
                | true => exact ifF (by simp) (go s6 ⟨_, _, _, rfl⟩ (by rw [cf]; exact bd))
                | false =>
                  refine ifT (by simp) ?_
                  have := kk H6 (oo.trans (out_same s6))
                  rw [allF (by rw [cf]; exact bd) rfl] at this
                  exact this
              · have ct : (clash (ext k w i) (ws ++ [w]) R W i).isSome = true := by
                  cases c : (clash (ext k w i) (ws ++ [w]) R W i).isSome with
                  | true => rfl
                  | false => exact absurd (ci.mpr c) hx
                refine ifT (by simp [hx]) ?_
                refine ⟨_, rfl, _, rfl, _, rfl, _, rfl, a2, _, _, R, W, u, _, ts[i], rfl, S5, hu5, dt5, bR, bW, _, rfl, ?_⟩
                cases bd : isBad (ext k w i) (ws ++ [w]) R W ts[i] with
                | true => exact ifF (by simp) (go s5 ⟨_, _, _, rfl⟩ (by rw [if_pos ct]; exact bd))
                | false =>
                  refine ifT (by simp) ?_
                  have := kk H5 (oo.trans (out_same s5))
                  rw [allF (by rw [if_pos ct]; exact bd) rfl] at this
                  exact this
            · obtain ⟨s2, ⟨g7', g8, g9, rfl⟩, done⟩ := h
              have e : acc R W most (w :: r) ws k (.try_ ts) = true := by
                rw [ae, List.all_eq_true]
                rintro ⟨p, j⟩ hp
                rw [List.mem_zipIdx_iff_getElem?] at hp
                obtain ⟨hj, ej⟩ := List.getElem?_eq_some_iff.mp hp
                have := done j hj (by omega)
                rw [ej] at this
                exact this
              have := kk H2 (oo.trans (out_same s2))
              rw [e] at this
              exact this
          · refine ifT (by rw [hvl]; simp; omega) ?_
            rw [decide_eq_false hlen, Bool.false_and] at ae
            rw [ae] at kk'
            exact kk'
end
end Toy

set_option Elab.async false
set_option linter.all false
set_option maxRecDepth 100000
set_option maxHeartbeats 4000000
namespace Toy
open PySem L2
def rowB (n : Nat) (r : Rw) : Bool := decide (r.1 < 2) && decide (r.2.1 < n) && decide (r.2.2 < n)
def fullB (l : List Rw) : Bool := !l.isEmpty && l.all (rowB l.length)
def spFull : Sp := fun vs H Q _ => ∃ v l, vs = [v, .int 2] ∧ DV H v (rwsD l) ∧ ∀ H', Same H H' → Q (.bl (fullB l)) H'
def endRw (l : List Rw) (n : Nat) : Nat := (l.getD n (0, 0, 0)).1
def fitsB (l : List Rw) (R W : List (List Nat)) : Bool := (R.all fun w => decide (endRw l (walkRw l 0 w) = 1)) && W.all fun w => decide (endRw l (walkRw l 0 w) = 0)
def spFits : Sp := fun vs H Q _ => ∃ v u t l R W, vs = [v, u, t] ∧ DV H v (rwsD l) ∧ DV H u (.tup (R.map wd)) ∧ DV H t (.tup (W.map wd)) ∧ Bin R ∧ Bin W ∧ okRw l ∧ l ≠ [] ∧ Q (.bl (fitsB l R W)) H
theorem walkRw_lt {l : List Rw} (ok : okRw l) : ∀ (w : List Nat) (n : Nat), n < l.length → walkRw l n w < l.length
  | [], n, h => h
  | c :: w, n, h => by
    refine walkRw_lt ok w _ ?_
    have m : l.getD n (0, 0, 0) ∈ l := by
      rw [List.getD_eq_getElem?_getD, List.getElem?_eq_getElem h]
      exact List.getElem_mem h
    have := ok _ m
    unfold goRw
    split <;> omega
theorem in01 (n : Nat) : inV (V.int ((n : Nat) : Int)) [V.int 0, V.int 1] = decide (n < 2) := by
  rw [Bool.eq_iff_iff, decide_eq_true_eq]
  simp [inV, eqV]
  omega
section
variable {P : Program} {w : World} {K : PySem.W.Frag} {mg : Str → Option Value} {base : Heap} {CR : Addr}
abbrev s_is_full_watcher : Stmt := top 22
theorem sc_is_full_watcher : FnScope ["rows", "base", "ends", "nexts", "number"] ["rows", "base"] (defScope s_is_full_watcher) := ⟨rfl, rfl, rfl, by decide +kernel, rfl, by decide +kernel, by decide +kernel⟩

theorem ok_full {f : Addr} {fd : FuncData} (F : Fun K "is_full_watcher" "is_full_watcher" s_is_full_watcher f fd) (T : Txt K mg CR) (C_is_whole : CalX P w K mg base CX0 1 "is_whole" spIsInt) (C_is_wholes : CalX P w K mg base CX0 2 "is_wholes" spWholes) (C_is_rows : CalX P w K mg base CX0 1 "is_rows" spRows) :
    FnOk P w K mg base CX0 3 f fd ["rows", "base"] spFull := by
  refine F.ok sc_is_full_watcher (fun vs H Q E h => ?_) (fun cdv A outer s H vs Q E hr h => ?_)
  · obtain ⟨v, l, rfl, _⟩ := h
    rfl
  obtain ⟨v, l, rfl, hv, k⟩ := h
  obtain ⟨a, us, rfl, ha, hs⟩ := hv.inv
  have hul := hs.length
  rw [List.length_map] at hul
  refine ⟨_, (pss_cons (ps_if (PW.pt (pw_or (pt_not (pt_val (pe_u C_is_rows hr (by omega) pass0 (pa_cons (pv 0) (pa_cons pe_int pa_nil))))) (pw_or1 (pt_not (pt_truth (pv 0) (by intro _; rfl)))))) (pss_one (ps_ret pe_bl)) pss_nil)
    (pss_cons (ps_for PassesOwn.never rfl (pi_tup (pv 0)) (pg_tup (by rfl) (pgs_cons (pg_name (i := 2) sc_is_full_watcher.nd rfl (Or.inl rfl)) (pgs_cons (pg_name (i := 3) sc_is_full_watcher.nd rfl (Or.inl rfl)) pgs_nil))) (pss_cons (ps_if (PW.pt (pw_or (pt_not (pt_val (pe_u C_is_whole hr (by omega) pass0 (pa_cons (pv 2) pa_nil)))) (pw_or (pt_cmpR op_notIn_seq (pv 2) (pe_tup (pa_cons pe_int (pa_cons pe_int pa_nil))) rfl) (pw_or (pt_not (pt_val (pe_u C_is_wholes hr (by omega) pass0 (pa_cons (pv 3) pa_nil)))) (pw_or1 (pt_cmpR op_ne (pe_callB call_len_seq (by rfl) T.z_len b_len (pa_cons (pv 3) pa_nil)) (pv 1) (nomark _))))))) (pss_one (ps_ret pe_bl)) pss_nil)
    (pss_one (ps_for PassesOwn.never rfl (pi_tup (pv 3)) (pg_name (i := 4) sc_is_full_watcher.nd rfl (Or.inl rfl)) (pss_one (ps_if (pt_not (pt_chain op_le op_lt pe_int (pv 4) (pe_callB call_len_seq (by rfl) T.z_len b_len (pa_cons (pv 0) pa_nil)))) (pss_one (ps_ret pe_bl)) pss_nil))))))
    (pss_one (ps_ret pe_bl)))), ?_⟩
  refine ⟨_, rfl, _, l, rfl, hv, _, rfl, ifF (by simp) ?_⟩
  refine ⟨_, rfl, _, .inr (.inl ⟨us, SqT.of ha, rfl⟩), ?_⟩
  by_cases hl : l = []
  · subst hl
    have : us = [] := List.length_eq_zero_iff.mp hul
    subst this
    exact ifT (by simp) (k H (Same.refl H))
  have une : us.isEmpty = false := by
    cases us with
    | nil => exact absurd (List.length_eq_zero_iff.mp hul.symm) hl
    | cons _ _ => rfl
  refine ifF (by rw [une]; simp) ?_
  have fb : fullB l = l.all (rowB l.length) := by unfold fullB; cases l; exact absurd rfl hl; rfl
  refine ⟨_, rfl, a, rfl, ⟨_, SqT.of ha⟩, for_tup (K := K) (a := a) (xs := us) (fun i σ H' => Same H H' ∧ (∃ g1 g2 g3, σ = [some (.ref a), some (.int 2), g1, g2, g3]) ∧ ∀ j (hj : j < l.length), j < i → rowB l.length l[j] = true) ⟨Same.refl H, ⟨_, _, _, rfl⟩, fun j hj z => absurd z (Nat.not_lt_zero _)⟩ (fun i σ H' _ h => SqT.of (h.1 _ _ ha)) (fun i x σ H' hx h => ?_) (fun σ H' h => ?_)⟩
  · obtain ⟨s1, ⟨g1, g2, g3, rfl⟩, done⟩ := h
    have hi : i < l.length := by have := (List.getElem?_eq_some_iff.mp hx).1; omega
    obtain ⟨q, b, e1, e2, e3⟩ := row_at hs hi
    rw [hx] at e1
    obtain rfl := Option.some.inj e1
    have er : l.getD i (0, 0, 0) = l[i] := by rw [List.getD_eq_getElem?_getD, List.getElem?_eq_getElem hi]; rfl
    rw [er] at e2 e3
    have bad : rowB l.length l[i] = false → ∀ H2, Same H H2 → Q (.bl false) H2 := fun e H2 s2 => by
      have z : fullB l = false := by
        rw [fb, List.all_eq_false]
        exact ⟨l[i], List.getElem_mem hi, by rw [e]; decide⟩
      have := k H2 s2
      rw [z] at this
      exact this
    refine ⟨q, _, rfl, SqT.of (s1 _ _ e2), rfl, _, _, rfl, _, _, rfl, rfl, ?_⟩
    refine ⟨_, rfl, _, rfl, _, rfl, ifF (by simp) ?_⟩
    refine ⟨_, rfl, by show 2 ≤ sizeLine; decide, fun t ht => ⟨t, _, rfl, .inr (SqT.of upd_same), rfl, rfl, _, rfl, ?_⟩⟩
    have s2 : Same H (upd H' t (.tup [V.int 0, V.int 1])) := s1.trans (Same.upd ht)
    generalize upd H' t (.tup [V.int 0, V.int 1]) = H2 at s2 ⊢
    rw [in01]
    by_cases c1 : l[i].1 < 2
    · refine ifF (by simp [c1]) ?_
      have db : DV H2 (.ref b) (wd [l[i].2.1, l[i].2.2]) := .of_word (s2 _ _ e3)
      refine ⟨_, rfl, _, _, rfl, db, _, rfl, ifF (by simp) ?_⟩
      refine ⟨_, rfl, b, _, rfl, .inr (SqT.of (s2 _ _ e3)), _, rfl, rfl, _, rfl, ifF (by simp) ?_⟩
      refine ⟨_, rfl, b, rfl, ⟨_, SqT.of (s2 _ _ e3)⟩, for_tup (K := K) (a := b) (xs := [.int ((l[i].2.1 : Nat) : Int), .int ((l[i].2.2 : Nat) : Int)]) (fun m σ H' => H' = H2 ∧ (∃ g1 g2 g3, σ = [some (.ref a), some (.int 2), g1, g2, g3]) ∧ (0 < m → l[i].2.1 < l.length) ∧ (1 < m → l[i].2.2 < l.length)) ⟨rfl, ⟨_, _, _, rfl⟩, fun z => absurd z (Nat.lt_irrefl _), fun z => absurd z (by omega)⟩ (fun _ σ H' _ h => by rw [h.1]; exact SqT.of (s2 _ _ e3)) (fun m x σ H' hx h => ?_) (fun σ H' h => ?_)⟩
      · obtain ⟨rfl, ⟨g1, g2, g3, rfl⟩, d0, d1⟩ := h
        have hm : (m = 0 ∧ x = .int ((l[i].2.1 : Nat) : Int)) ∨ (m = 1 ∧ x = .int ((l[i].2.2 : Nat) : Int)) := by
          rcases m with _ | _ | m
          · simp at hx; exact .inl ⟨rfl, hx.symm⟩
          · simp at hx; exact .inr ⟨rfl, hx.symm⟩
          · simp at hx
        rcases hm with ⟨rfl, rfl⟩ | ⟨rfl, rfl⟩
        · refine ⟨_, rfl, _, _, rfl, rfl, _, rfl, ite2 (fun d => ?_) (fun d => absurd (decide_eq_true (by omega)) d)⟩
          refine ⟨_, rfl, a, _, rfl, .inr (SqT.of (s2 _ _ ha)), _, _, rfl, rfl, _, rfl, ite2 (fun d => ?_) (fun d => ?_)⟩
          · have d' : ¬ l[i].2.1 < l.length := by simp at d; omega
            exact bad (by unfold rowB; simp [d']) _ s2
          · have d' : l[i].2.1 < l.length := by simp at d; omega
            exact ⟨rfl, ⟨_, _, _, rfl⟩, fun _ => d', fun z => absurd z (by omega)⟩
        · refine ⟨_, rfl, _, _, rfl, rfl, _, rfl, ite2 (fun d => ?_) (fun d => absurd (decide_eq_true (by omega)) d)⟩
          refine ⟨_, rfl, a, _, rfl, .inr (SqT.of (s2 _ _ ha)), _, _, rfl, rfl, _, rfl, ite2 (fun d => ?_) (fun d => ?_)⟩
          · have d' : ¬ l[i].2.2 < l.length := by simp at d; omega
            exact bad (by unfold rowB; simp [d']) _ s2
          · have d' : l[i].2.2 < l.length := by simp at d; omega
            exact ⟨rfl, ⟨_, _, _, rfl⟩, fun _ => d0 (by omega), fun _ => d'⟩
      · obtain ⟨rfl, ⟨g1, g2, g3, rfl⟩, d0, d1⟩ := h
        refine ⟨s2, ⟨_, _, _, rfl⟩, fun j hj lt => ?_⟩
        by_cases e : j = i
        · subst e
          have := d0 (by simp)
          have := d1 (by simp)
          unfold rowB
          simp [*]
        · exact done j hj (by omega)
    · exact ifT (by simp [c1]) (bad (by unfold rowB; simp [c1]) _ s2)
  · obtain ⟨s1, ⟨g1, g2, g3, rfl⟩, done⟩ := h
    have z : fullB l = true := by
      rw [fb, List.all_eq_true]
      intro x hx
      obtain ⟨j, hj, rfl⟩ := List.getElem_of_mem hx
      exact done j hj (by omega)
    have := k H' s1
    rw [z] at this
    exact this
abbrev s_watcher_fits : Stmt := top 23
theorem sc_watcher_fits : FnScope ["rows", "right", "wrong", "file"] ["rows", "right", "wrong"] (defScope s_watcher_fits) := ⟨rfl, rfl, rfl, by decide +kernel, rfl, by decide +kernel, by decide +kernel⟩

theorem ok_fits {f : Addr} {fd : FuncData} (F : Fun K "watcher_fits" "watcher_fits" s_watcher_fits f fd) (T : Txt K mg CR) (C_walk : CalX P w K mg base CX0 1 "walk" spWalk) : FnOk P w K mg base CX0 2 f fd ["rows", "right", "wrong"] spFits := by
  refine F.ok sc_watcher_fits (fun vs H Q E h => ?_) (fun cdv A outer s H vs Q E hr h => ?_)
  · obtain ⟨v, u, t, l, R, W, rfl, _⟩ := h
    rfl
  obtain ⟨v, u, t, l, R, W, rfl, hv, hu, ht, bR, bW, ok, ln, k⟩ := h
  obtain ⟨a, us, rfl, ha, hs⟩ := hv.inv
  obtain ⟨b, rs, rfl, hb, hrs⟩ := hu.inv
  obtain ⟨c, ws, rfl, hc, hws⟩ := ht.inv
  have hrl := hrs.length
  have hwl := hws.length
  rw [List.length_map] at hrl hwl
  have lpos : 0 < l.length := List.length_pos_iff.mpr ln
  refine ⟨_, (pss_cons (ps_for PassesOwn.never rfl (pi_tup (pv 1)) (pg_name (i := 3) sc_watcher_fits.nd rfl (Or.inl rfl)) (pss_one (ps_if (pt_cmpR op_ne (pe_ix ix_tup (pe_ix ix_tup (pv 0) (pe_u C_walk hr (by omega) pass0 (pa_cons (pv 0) (pa_cons pe_int (pa_cons (pv 3) pa_nil)))) (fun _ _ => rfl)) pe_int (fun _ _ => rfl)) pe_int (nomark _)) (pss_one (ps_ret pe_bl)) pss_nil)))
    (pss_cons (ps_for PassesOwn.never rfl (pi_tup (pv 2)) (pg_name (i := 3) sc_watcher_fits.nd rfl (Or.inl rfl)) (pss_one (ps_if (pt_cmpR op_ne (pe_ix ix_tup (pe_ix ix_tup (pv 0) (pe_u C_walk hr (by omega) pass0 (pa_cons (pv 0) (pa_cons pe_int (pa_cons (pv 3) pa_nil)))) (fun _ _ => rfl)) pe_int (fun _ _ => rfl)) pe_int (nomark _)) (pss_one (ps_ret pe_bl)) pss_nil)))
    (pss_one (ps_ret pe_bl)))), ?_⟩
  refine ⟨_, rfl, b, rfl, ⟨_, SqT.of hb⟩, for_tup (K := K) (a := b) (xs := rs) (fun i σ H' => H' = H ∧ (∃ g, σ = [some (.ref a), some (.ref b), some (.ref c), g]) ∧ ∀ j (hj : j < R.length), j < i → endRw l (walkRw l 0 R[j]) = 1) ⟨rfl, ⟨_, rfl⟩, fun j hj z => absurd z (Nat.not_lt_zero _)⟩ (fun i σ H' _ h => by rw [h.1]; exact SqT.of hb) (fun i x σ H' hx h => ?_) (fun σ H' h => ?_)⟩
  · obtain ⟨rfl, ⟨g, rfl⟩, done⟩ := h
    obtain ⟨p, hp, dx⟩ := hrs.get hx
    rw [List.getElem?_map] at hp
    obtain ⟨w0, hw0, rfl⟩ := Option.map_eq_some_iff.mp hp
    obtain ⟨hi, ew⟩ := List.getElem?_eq_some_iff.mp hw0
    obtain ⟨q, e, h1, h2, h3⟩ := row_at hs (walkRw_lt ok w0 0 lpos)
    refine ⟨_, rfl, _, rfl, _, rfl, _, _, l, 0, w0, rfl, hv, dx, bR w0 (List.mem_of_getElem? hw0), ok, lpos, a, _, _, _, rfl, rfl, SqT.of ha, atI_nat h1, q, _, _, _, rfl, rfl, SqT.of h2, rfl, rfl, _, rfl, ite2 (fun d => ?_) (fun d => ?_)⟩
    · have d' : ¬ endRw l (walkRw l 0 w0) = 1 := fun z => by
        have z : (l.getD (walkRw l 0 w0) (0, 0, 0)).1 = 1 := z
        rw [z] at d
        exact absurd d (by decide)
      have e : fitsB l R W = false := by
        unfold fitsB
        rw [Bool.and_eq_false_iff]
        refine .inl (List.all_eq_false.mpr ⟨w0, List.mem_of_getElem? hw0, by rw [decide_eq_false d']; decide⟩)
      rw [e] at k
      exact k
    · have d' : endRw l (walkRw l 0 w0) = 1 := by
        have : (V.int (((l.getD (walkRw l 0 w0) (0, 0, 0)).1 : Nat) : Int)) = V.int 1 := by simpa using d
        injection this with this
        show (l.getD (walkRw l 0 w0) (0, 0, 0)).1 = 1
        omega
      refine ⟨rfl, ⟨_, rfl⟩, fun j hj lt => ?_⟩
      by_cases c : j = i
      · subst c; rw [ew]; exact d'
      · exact done j hj (by omega)
  · obtain ⟨rfl, ⟨g, rfl⟩, done⟩ := h
    have allR : (R.all fun w => decide (endRw l (walkRw l 0 w) = 1)) = true := by
      rw [List.all_eq_true]
      intro x hx
      obtain ⟨j, hj, rfl⟩ := List.getElem_of_mem hx
      exact decide_eq_true (done j hj (by omega))
    refine ⟨_, rfl, c, rfl, ⟨_, SqT.of hc⟩, for_tup (K := K) (a := c) (xs := ws) (fun i σ H2 => H2 = H' ∧ (∃ g, σ = [some (.ref a), some (.ref b), some (.ref c), g]) ∧ ∀ j (hj : j < W.length), j < i → endRw l (walkRw l 0 W[j]) = 0) ⟨rfl, ⟨_, rfl⟩, fun j hj z => absurd z (Nat.not_lt_zero _)⟩ (fun i σ H2 _ h => by rw [h.1]; exact SqT.of hc) (fun i x σ H2 hx h => ?_) (fun σ H2 h => ?_)⟩
    · obtain ⟨rfl, ⟨g, rfl⟩, done⟩ := h
      obtain ⟨p, hp, dx⟩ := hws.get hx
      rw [List.getElem?_map] at hp
      obtain ⟨w0, hw0, rfl⟩ := Option.map_eq_some_iff.mp hp
      obtain ⟨hi, ew⟩ := List.getElem?_eq_some_iff.mp hw0
      obtain ⟨q, e, h1, h2, h3⟩ := row_at hs (walkRw_lt ok w0 0 lpos)
      refine ⟨_, rfl, _, rfl, _, rfl, _, _, l, 0, w0, rfl, hv, dx, bW w0 (List.mem_of_getElem? hw0), ok, lpos, a, _, _, _, rfl, rfl, SqT.of ha, atI_nat h1, q, _, _, _, rfl, rfl, SqT.of h2, rfl, rfl, _, rfl, ite2 (fun d => ?_) (fun d => ?_)⟩
      · have d' : ¬ endRw l (walkRw l 0 w0) = 0 := fun z => by
          have z : (l.getD (walkRw l 0 w0) (0, 0, 0)).1 = 0 := z
          rw [z] at d
          exact absurd d (by decide)
        have e : fitsB l R W = false := by
          unfold fitsB
          rw [Bool.and_eq_false_iff]
          refine .inr (List.all_eq_false.mpr ⟨w0, List.mem_of_getElem? hw0, by rw [decide_eq_false d']; decide⟩)
        rw [e] at k
        exact k
      · have d' : endRw l (walkRw l 0 w0) = 0 := by
          have : (V.int (((l.getD (walkRw l 0 w0) (0, 0, 0)).1 : Nat) : Int)) = V.int 0 := by simpa using d
          injection this with this
          show (l.getD (walkRw l 0 w0) (0, 0, 0)).1 = 0
          omega
        refine ⟨rfl, ⟨_, rfl⟩, fun j hj lt => ?_⟩
        by_cases c : j = i
        · subst c; rw [ew]; exact d'
        · exact done j hj (by omega)
    · obtain ⟨rfl, ⟨g, rfl⟩, done2⟩ := h
      have e : fitsB l R W = true := by
        unfold fitsB
        rw [Bool.and_eq_true]
        refine ⟨allR, ?_⟩
        rw [List.all_eq_true]
        intro x hx
        obtain ⟨j, hj, rfl⟩ := List.getElem_of_mem hx
        exact decide_eq_true (done2 j hj (by omega))
      rw [e] at k
      exact k
end
end Toy

set_option Elab.async false
set_option linter.all false
set_option maxRecDepth 100000
set_option maxHeartbeats 4000000
namespace Toy
open PySem L2
inductive An where
  | more (t : Tr) | few (l : List Rw) (t : Tr)
def An.da : An → Da
  | .more t => .tup [.str "more", t.da]
  | .few l t => .tup [.str "fewest", rwsD l, t.da]
def isNon : Tr → Bool
  | .non => true
  | _ => false
abbrev k0 : Lk := fun _ _ => none
def judgeB (full R W : List (List Nat)) (most : Nat) : An → Bool
  | .more t => acc R W most full [] k0 t
  | .few l t => fullB l && (decide (l.length ≤ most) && (fitsB l R W && if l.length = 1 then isNon t else acc R W (l.length - 1) full [] k0 t))
theorem da_non {H : Hp} {v : V} {t : Tr} (h : DV H v t.da) : decide (v = .non) = isNon t := by
  cases t with
  | non => cases h; rfl
  | fits => obtain ⟨_, _, rfl, _⟩ := h.inv; rfl
  | bad1 a => obtain ⟨_, _, rfl, _⟩ := h.inv; rfl
  | bad a b => obtain ⟨_, _, rfl, _⟩ := h.inv; rfl
  | try_ ts => obtain ⟨_, _, rfl, _⟩ := h.inv; rfl
theorem beg_pre {fs full : List (List Nat)} (so : SortedW full) (me : ∀ w, w ∈ full ↔ Beg fs w) (few : full.length ≤ 900) : Pre full := by
  refine ⟨so.nodup, few, fun ws w rest e => ?_⟩
  by_cases h : w = []
  · exact .inl h
  · right
    have hm : w ∈ full := by rw [e]; simp
    have hb : Beg fs w.dropLast := by
      rcases (me w).mp hm with z | ⟨x, hx, p⟩
      · exact absurd z h
      · exact .inr ⟨x, hx, (List.dropLast_prefix w).trans p⟩
    have hd := (me _).mpr hb
    rw [e] at hd so
    have lt : ltW w.dropLast w = true := ltW_len (by
      have : w.length ≠ 0 := fun z => h (List.length_eq_zero_iff.mp z)
      rw [List.length_dropLast]; omega)
    rcases List.mem_append.mp hd with m | m
    · exact m
    · exfalso
      rcases List.mem_cons.mp m with z | m
      · rw [z, ltW_irr] at lt; cases lt
      · have := (List.pairwise_append.mp so).2.1
        have := (List.pairwise_cons.mp this).1 _ m
        rw [ltW_asym lt] at this; cases this
def spJudge (n : Nat) : Sp := fun vs H Q _ => ∃ vr vw v R W an full most, vs = [.int 2, vr, vw, .int ((most : Nat) : Int), v] ∧ DV H vr (.tup (R.map wd)) ∧ DV H vw (.tup (W.map wd)) ∧ DV H v (An.da an) ∧ SortedW full ∧ (∀ w, w ∈ full ↔ Beg (R ++ W) w) ∧ full.length ≤ n ∧ n ≤ 900 ∧
  Bin R ∧ Bin W ∧ ((R ++ W).map List.length).sum ≤ 900 ∧ R.length + W.length ≤ 900 ∧ ∀ H', Same H H' → Q (.bl (judgeB full R W most an)) H'
theorem inM (n : Nat) : inV (V.int ((n : Nat) : Int)) [V.int 2, V.int 3] = decide (n = 2 ∨ n = 3) := by
  rw [Bool.eq_iff_iff, decide_eq_true_eq]
  simp [inV, eqV]
  omega
section
variable {P : Program} {w : World} {K : PySem.W.Frag} {mg : Str → Option Value} {base : Heap} {CR : Addr}
abbrev s_judge_fewest : Stmt := top 24
theorem sc_judge_fewest : FnScope ["base", "right", "wrong", "most", "answer", "words", "samples", "head", "rows", "tree"] ["base", "right", "wrong", "most", "answer"] (defScope s_judge_fewest) := ⟨rfl, rfl, rfl, by decide +kernel, rfl, by decide +kernel, by decide +kernel⟩

theorem ok_judge {n : Nat} {f : Addr} {fd : FuncData} (F : Fun K "judge_fewest" "judge_fewest" s_judge_fewest f fd) (T : Txt K mg CR) (C_beginnings_of : CalX P w K mg base CX0 2 "beginnings_of" spBeg) (C_bars : CalX P w K mg base CX0 (n + 4) "bars" (spBars CR (n + 1))) (N_RowState : MakX P w K mg base CX0 1 "RowState" CR (spInit CR))
    (C_is_full_watcher : CalX P w K mg base CX0 3 "is_full_watcher" spFull) (C_watcher_fits : CalX P w K mg base CX0 2 "watcher_fits" spFits) : FnOk P w K mg base CX0 (n + 5) f fd ["base", "right", "wrong", "most", "answer"] (spJudge n) := by
  refine F.ok sc_judge_fewest (fun vs H Q E h => ?_) (fun cdv A outer s H vs Q E hr h => ?_)
  · obtain ⟨vr, vw, v, R, W, an, full, most, rfl, _⟩ := h
    rfl
  obtain ⟨vr, vw, v, R, W, an, full, most, rfl, hR, hW, hv, so, me, hfl, hn, bR, bW, hsum, hlen, k⟩ := h
  have hr : Room (n + 4) _ := hr
  obtain ⟨cr, rs, rfl, hcr, hrs⟩ := hR.inv
  obtain ⟨cw, us, rfl, hcw, hws⟩ := hW.inv
  have hrl := hrs.length
  have hwl := hws.length
  rw [List.length_map] at hrl hwl
  have pf := beg_pre so me (by omega)
  refine ⟨_, (pss_cons (ps_if (PW.pt (pw_or (pt_not (pt_val (pe_callB call_isi2 (by rfl) T.z_isinstance b_isinstance (pa_cons (pv 4) (pa_cons (pe_bltn (v := .ty "tuple") (by rfl) T.z_tuple b_tuple rfl) pa_nil))))) (pw_or1 (pt_cmpR op_notIn_seq (pe_callB call_len_seq (by rfl) T.z_len b_len (pa_cons (pv 4) pa_nil)) (pe_tup (pa_cons pe_int (pa_cons pe_int pa_nil))) rfl)))) (pss_one (ps_ret pe_bl)) pss_nil)
    (pss_cons (ps_set (i := 5) sc_judge_fewest.nd rfl (Or.inl rfl) (pe_u C_beginnings_of hr (by omega) pass0 (pa_cons (pe_op op_catB (pv 1) (pv 2)) pa_nil)))
    (pss_cons (ps_set (i := 6) sc_judge_fewest.nd rfl (Or.inl rfl) (pe_tup (pa_cons (pv 1) (pa_cons (pv 2) pa_nil))))
    (pss_cons (ps_if (pt_cmpR op_eq (pe_callB call_len_seq (by rfl) T.z_len b_len (pa_cons (pv 4) pa_nil)) pe_int (nomark _)) (pss_one (ps_ret (pe_and (pe_cmpR op_eq (pe_ix ix_tup (pv 4) pe_int (fun _ _ => rfl)) pe_str (nomark _)) (pe_one (pe_u C_bars hr (by omega) pass0 (pa_cons (pe_n0 N_RowState hr (by omega) pass0) (pa_cons (pv 5) (pa_cons (pv 6) (pa_cons (pv 3) (pa_cons (pe_ix ix_tup (pv 4) pe_int (fun _ _ => rfl)) (pa_cons (pv 0) pa_nil))))))))))) pss_nil)
    (pss_cons (ps_asg (pv 4) (pg_tup (by rfl) (pgs_cons (pg_name (i := 7) sc_judge_fewest.nd rfl (Or.inl rfl)) (pgs_cons (pg_name (i := 8) sc_judge_fewest.nd rfl (Or.inl rfl)) (pgs_cons (pg_name (i := 9) sc_judge_fewest.nd rfl (Or.inl rfl)) pgs_nil)))))
    (pss_cons (ps_if (PW.pt (pw_or (pt_cmpR op_ne (pv 7) pe_str (nomark _)) (pw_or (pt_not (pt_val (pe_u C_is_full_watcher hr (by omega) pass0 (pa_cons (pv 8) (pa_cons (pv 0) pa_nil))))) (pw_or1 (pt_cmpR op_gt (pe_callB call_len_seq (by rfl) T.z_len b_len (pa_cons (pv 8) pa_nil)) (pv 3) (nomark _)))))) (pss_one (ps_ret pe_bl)) pss_nil)
    (pss_cons (ps_if (pt_not (pt_val (pe_u C_watcher_fits hr (by omega) pass0 (pa_cons (pv 8) (pa_cons (pv 1) (pa_cons (pv 2) pa_nil)))))) (pss_one (ps_ret pe_bl)) pss_nil)
    (pss_cons (ps_if (pt_cmpR op_eq (pe_callB call_len_seq (by rfl) T.z_len b_len (pa_cons (pv 8) pa_nil)) pe_int (nomark _)) (pss_one (ps_ret (pe_cmpR op_isN (pv 9) pe_non (nomark _)))) pss_nil)
    (pss_one (ps_ret (pe_u C_bars hr (by omega) pass0 (pa_cons (pe_n0 N_RowState hr (by omega) pass0) (pa_cons (pv 5) (pa_cons (pv 6) (pa_cons (pe_op op_sub (pe_callB call_len_seq (by rfl) T.z_len b_len (pa_cons (pv 8) pa_nil)) pe_int) (pa_cons (pv 9) (pa_cons (pv 0) pa_nil))))))))))))))))), ?_⟩
  have hda : ∃ l, An.da an = .tup l ∧ (l.length = 2 ∨ l.length = 3) := by cases an <;> exact ⟨_, rfl, by simp⟩
  obtain ⟨dl, eda, ell⟩ := hda
  rw [eda] at hv
  obtain ⟨q, xs, rfl, hq, hx⟩ := hv.inv
  have hxl := hx.length
  refine ⟨_, rfl, _, _, _, true, rfl, .base (.tup hq), by decide +kernel, _, rfl, ifF (by simp) ?_⟩
  refine ⟨_, rfl, q, _, rfl, .inr (SqT.of hq), by show 2 ≤ sizeLine; decide, fun t ht => ⟨t, _, rfl, .inr (SqT.of upd_same), rfl, rfl, _, rfl, ?_⟩⟩
  have s1 : Same H (upd H t (.tup [V.int 2, V.int 3])) := Same.upd ht
  generalize upd H t (.tup [V.int 2, V.int 3]) = H1 at s1 ⊢
  rw [inM]
  refine ifF (by rw [hxl]; simp [ell]) ?_
  refine ⟨_, rfl, _, rfl, cr, cw, rs, us, rfl, rfl, s1 _ _ hcr, s1 _ _ hcw, Nat.le_of_lt (small1000 (by omega)), fun p H2 s2 hp => ?_⟩
  have s12 := s1.trans s2
  refine ⟨p, _, R ++ W, rfl, hp, by rw [List.map_append]; exact (hrs.mono (same_tp s12)).append (hws.mono (same_tp s12)), hsum, fun q2 H3 us' ws s3 hq2 hvs so' me' => ?_⟩
  obtain rfl : ws = full := sorted_uniq so' so fun w => (me' w).trans (me w).symm
  have s13 := s12.trans s3
  refine ⟨_, rfl, _, rfl, by show 2 ≤ sizeLine; decide, fun sm hsm => ?_⟩
  have s4 : Same H3 (upd H3 sm (.tup [.ref cr, .ref cw])) := Same.upd hsm
  have hsm4 : upd H3 sm (.tup [.ref cr, .ref cw]) sm = some (.tup [.ref cr, .ref cw]) := upd_same
  generalize upd H3 sm (.tup [.ref cr, .ref cw]) = H4 at s4 hsm4 ⊢
  have s14 := s13.trans s4
  have dS : DV H4 (.ref sm) (sampD R W) := .tup hsm4 (.cons (hR.mono (same_tp s14)) (.cons (hW.mono (same_tp s14)) .nil))
  have hq4 := s14 _ _ hq
  have hq24 := s4 _ _ hq2
  have hvs4 := hvs.mono (same_tp s4)
  have x4 := hx.mono (same_tp s14)
  -- the call of bars
  have bars : ∀ {H5 : Hp} {v : V} {t : Tr} {m : Nat} {Q' : VK}, Same H4 H5 → DV H5 v t.da → (∀ H6, Same H H6 → Q' (.bl (acc R W m ws [] k0 t)) H6) → ∀ p dx, H5 p = none → H5 dx = none → dx ≠ p → ∀ QQ : VK, (∀ H6, Same H4 H6 → spBars CR (n + 1) [.ref p, .ref q2, .ref sm, .int ((m : Nat) : Int), v, .int 2] H6 Q' E0 → QQ .non H6) →
      spInit CR [.ref p] (upd (upd H5 dx (.own p)) p (.ins CR dx [])) QQ E0 := by
    intro H5 v t m Q' s5 dt kq p dx hp hdx hne QQ hQ
    refine ⟨p, dx, rfl, upd_same, fun a' H6 ea SI6 K6 fr6 => ?_⟩
    have s6 : Same H5 H6 := fun b o e => K6 b o (ne_of_none e hp) (by rw [upd_ne (ne_of_none e hp), upd_ne (ne_of_none e hdx)]; exact e)
    have s46 := s5.trans s6
    subst ea
    refine hQ H6 s46 ⟨a', k0, [], ws, ws, R, W, q2, us', _, _, t, m, rfl, SI6 R W, rfl, hfl, pf, s46 _ _ hq24, hvs4.mono (same_tp s46), dS.mono (same_tp s46), dt.mono (same_tp s6), bR, bW, fun H7 o7 => kq H7 fun b o e => ?_⟩
    have e5 := (s14.trans s5) _ _ e
    refine o7 b o (fun hb => ?_) (s6 _ _ e5)
    rcases fr6 b hb with z | z
    · rw [z, hp] at e5; cases e5
    · by_cases c : b = a'.p
      · rw [c, hp] at e5; cases e5
      · rw [upd_ne c] at z
        by_cases d : b = dx
        · rw [d, hdx] at e5; cases e5
        · rw [upd_ne d, e5] at z; cases z
  cases an with
  | more t =>
    injection eda with eda
    subst eda
    cases x4 with
    | cons h1 h2 =>
      cases h2 with
      | cons h3 h4 =>
        cases h4
        cases h1
        refine ⟨_, rfl, q, _, rfl, .inr (SqT.of hq4), rfl, _, rfl, ifT (by simp) ?_⟩
        refine ⟨_, rfl, q, _, _, _, rfl, rfl, SqT.of hq4, rfl, rfl, _, rfl, ifT (by decide +kernel) ?_⟩
        refine fun p dx hp hdx hne => bars (Same.refl _) h3 k p dx hp hdx hne _ fun H6 s6 hb => ⟨rfl, _, rfl, _, rfl, _, rfl, _, rfl, q, _, _, _, rfl, rfl, SqT.of (s6 _ _ hq4), rfl, _, rfl, hb⟩
  | few l t =>
    injection eda with eda
    subst eda
    cases x4 with
    | cons h1 h2 =>
      cases h2 with
      | cons h3 h4 =>
        cases h4 with
        | cons h5 h6 =>
          cases h6
          cases h1
          refine ⟨_, rfl, q, _, rfl, .inr (SqT.of hq4), rfl, _, rfl, ifF (by simp) ?_⟩
          refine ⟨_, rfl, q, _, rfl, SqT.of hq4, rfl, _, _, rfl, _, _, rfl, _, _, rfl, rfl, ?_⟩
          have dl := h3
          obtain ⟨ql, vl, rfl, hql, hvl⟩ := h3.inv
          have hll := hvl.length
          rw [List.length_map] at hll
          refine ⟨_, rfl, rfl, _, rfl, ifF (by decide +kernel) ?_⟩
          refine ⟨_, rfl, _, rfl, _, l, rfl, dl, fun H5 s5 => ⟨_, rfl, ?_⟩⟩
          have s15 := s14.trans s5
          cases fb : fullB l with
          | false =>
            refine ifT rfl ?_
            have := k H5 s15
            rw [judgeB, fb, Bool.false_and] at this
            exact this
          | true =>
          refine ifF (by decide) ?_
          have lne : l ≠ [] := by
            intro e
            rw [e] at fb
            cases fb
          have okl : okRw l := by
            intro r hr2
            unfold fullB at fb
            rw [Bool.and_eq_true] at fb
            have := List.all_eq_true.mp fb.2 r hr2
            unfold rowB at this
            rw [Bool.and_eq_true, Bool.and_eq_true] at this
            exact ⟨of_decide_eq_true this.1.2, of_decide_eq_true this.2⟩
          have lpos : 0 < l.length := List.length_pos_iff.mpr lne
          refine ⟨_, rfl, ql, _, rfl, .inr (SqT.of (s5 _ _ hql)), _, rfl, _, _, rfl, rfl, _, rfl, ite2 (fun d => ?_) (fun d => ?_)⟩
          · have d' : ¬ l.length ≤ most := by simp at d; omega
            have := k H5 s15
            rw [judgeB, fb, Bool.true_and, decide_eq_false d', Bool.false_and] at this
            exact this
          have d' : l.length ≤ most := by simp at d; omega
          refine ⟨_, rfl, _, rfl, _, rfl, _, _, _, l, R, W, rfl, dl.mono (same_tp s5), hR.mono (same_tp s15), hW.mono (same_tp s15), bR, bW, okl, lne, _, rfl, ?_⟩
          cases ff : fitsB l R W with
          | false =>
            refine ifT rfl ?_
            have := k H5 s15
            rw [judgeB, fb, Bool.true_and, decide_eq_true d', Bool.true_and, ff, Bool.false_and] at this
            exact this
          | true =>
          refine ifF (by decide) ?_
          have jb : judgeB ws R W most (.few l t) = if l.length = 1 then isNon t else acc R W (l.length - 1) ws [] k0 t := by
            rw [judgeB, fb, Bool.true_and, decide_eq_true d', Bool.true_and, ff, Bool.true_and]
          rw [jb] at k
          refine ⟨_, rfl, ql, _, rfl, .inr (SqT.of (s5 _ _ hql)), rfl, _, rfl, ?_⟩
          by_cases l1 : l.length = 1
          · refine ifT (by rw [hll, l1]; rfl) ?_
            refine ⟨_, rfl, rfl, ?_⟩
            have := k H5 s15
            rw [if_pos l1] at this
            rw [da_non h5]
            exact this
          · refine ifF (by rw [hll]; simp; omega) ?_
            rw [if_neg l1] at k
            refine fun p dx hp hdx hne => bars s5 (h5.mono (same_tp s5)) k p dx hp hdx hne _ fun H6 s6 hb => ⟨rfl, _, rfl, _, rfl, _, rfl, _, _, rfl, .inr (SqT.of (s6 _ _ hql)), _, _, rfl, rfl, _, rfl, _, rfl, ?_⟩
            rw [show ((l.length - 1 : Nat) : Int) = ((vl.length : Nat) : Int) - 1 by omega] at hb
            exact hb
end
end Toy

set_option Elab.async false
set_option linter.all false
set_option maxRecDepth 100000
set_option maxHeartbeats 4000000
namespace Toy
open PySem L2
theorem take_more {α : Type} {l : List α} {i : Nat} {x : α} (h : l[i]? = some x) : l.take (i + 1) = l.take i ++ [x] := by
  rw [List.take_add_one, h]; rfl
/-! ### the law's draws: a list of [the script's numbers, a place, a rest, a state] -/
def Dr (H : Hp) (d l : Addr) (ns : List Int) : Prop := ∃ i f g : Int, 0 ≤ i ∧ H d = some (.lst [.ref l, .int i, .int f, .int g]) ∧ H l = some (.lst (ns.map V.int))
theorem Dr.ne {H : Hp} {d l : Addr} {ns : List Int} (h : Dr H d l ns) : l ≠ d := by
  obtain ⟨i, f, g, _, h1, h2⟩ := h
  refine ne_of h2 h1 (fun e => ?_)
  have e' : ns.map V.int = [.ref l, .int i, .int f, .int g] := HO.lst.inj e
  cases ns with
  | nil => cases e'
  | cons a r => cases e'
theorem Dr.same {H H' : Hp} {d l : Addr} {ns : List Int} (h : Dr H d l ns) (s : Same H H') : Dr H' d l ns := by
  obtain ⟨i, f, g, h0, h1, h2⟩ := h
  exact ⟨i, f, g, h0, s _ _ h1, s _ _ h2⟩
theorem Keep.tups {H H' : Hp} {d : Addr} {xs : List V} (hd : H d = some (.lst xs)) (s : Keep d H H') : ∀ b ys, H b = some (.tup ys) → H' b = some (.tup ys) := fun b ys e =>
  s b _ (ne_of e hd (fun z => nomatch z)) e
theorem Dr.tups {H H' : Hp} {d l : Addr} {ns : List Int} (h : Dr H d l ns) (s : Keep d H H') : ∀ b ys, H b = some (.tup ys) → H' b = some (.tup ys) := by
  obtain ⟨i, f, g, _, h1, _⟩ := h
  exact Keep.tups h1 s
def spBegin (K : PySem.W.Frag) : Sp := fun vs H Q _ => ∃ (a : Addr) (ns : List Int), vs = [.ref a] ∧ SqL K H a (ns.map V.int) ∧ ns.length ≤ 63 ∧ ∀ d l ms H', Same H H' → Dr H' d l ms → Q (.ref d) H'
def spDraw : Sp := fun vs H Q _ => ∃ (d l : Addr) (ns : List Int) (m : Int), vs = [.ref d, .int m] ∧ Dr H d l ns ∧ 0 < m ∧ m < 1073741824 ∧ ∀ r H', 0 ≤ r → r < m → Keep d H H' → Dr H' d l ns → Q (.int r) H'
def spPick : Sp := fun vs H Q _ => ∃ (d l r : Addr) (ns : List Int) (xs : List V), vs = [.ref d, .ref r] ∧ Dr H d l ns ∧ r ≠ d ∧ H r = some (.lst xs) ∧ xs ≠ [] ∧ xs.length ≤ 1000 ∧ ∀ x H', x ∈ xs → Keep d H H' → Dr H' d l ns → Q x H'
section
variable {P : Program} {w : World} {K : PySem.W.Frag} {mg : Str → Option Value} {base : Heap} {CR : Addr}
theorem fmod_lo {a m : Int} (h : 0 < m) : 0 ≤ a.fmod m := by rw [Int.fmod_eq_emod_of_nonneg _ (Int.le_of_lt h)]; exact Int.emod_nonneg _ (by omega)
theorem fmod_hi {a m : Int} (h : 0 < m) : a.fmod m < m := by rw [Int.fmod_eq_emod_of_nonneg _ (Int.le_of_lt h)]; exact Int.emod_lt_of_pos _ h
abbrev s_l_begin : Stmt := top 26
theorem sc_l_begin : FnScope ["script", "cell"] ["script"] (defScope s_l_begin) := ⟨rfl, rfl, rfl, by decide +kernel, rfl, by decide +kernel, by decide +kernel⟩

theorem ok_begin {f : Addr} {fd : FuncData} (F : Fun K "_law_begin" "_law_begin" s_l_begin f fd) (T : Txt K mg CR) : FnOk P w K mg base CX0 1 f fd ["script"] (spBegin K) := by
  refine F.ok sc_l_begin (fun vs H Q E h => ?_) (fun cdv A outer s H vs Q E hr h => ?_)
  · obtain ⟨a, ns, rfl, _⟩ := h
    rfl
  obtain ⟨a, ns, rfl, hS, hl, k⟩ := h
  refine ⟨_, (pss_one (ps_ret (pe_lst (pa_cons (pe_lc (own := [("cell", 1)]) (g := gName 1) (by rfl) sc_l_begin.nd (pi_list (pe_slice sl_list (pv 0) po_none (po_some pe_int))) (blkOk_by (own := [("cell", 1)]) (N := ["script", "cell"]) (sc := defScope s_l_begin) (by decide +kernel)) (fun _ _ _ _ _ => pg_name (i := 1) sc_l_begin.nd rfl (Or.inl rfl)) (fun _ _ _ _ _ => pts_nil) (fun _ _ _ _ _ => (pe_callTy call_int1 (by rfl) T.z_int b_int (pa_cons (pv 1) pa_nil)))) (pa_cons pe_int (pa_cons pe_int (pa_cons pe_int pa_nil))))))), ?_⟩
  refine ⟨_, rfl, _, rfl, a, _, rfl, hS, fun c hc => ?_⟩
  obtain ⟨ms, hms, hml⟩ : ∃ ms : List Int, cutV (ns.map V.int) none (some 63) = ms.map V.int ∧ ms.length ≤ 63 := by
    unfold cutV
    rw [← List.map_drop, ← List.map_take]
    refine ⟨_, rfl, ?_⟩
    rw [List.length_take, List.length_drop]
    omega
  refine ⟨c, rfl, ⟨_, SqL.of upd_same⟩, fun D hD => ?_⟩
  have hDc : D ≠ c := fun z => by rw [z, upd_same] at hD; cases hD
  have hD0 : H D = none := by rw [upd_ne hDc] at hD; exact hD
  refine lc_list (K := K) (a := c) (xs := cutV (ns.map V.int) none (some 63)) (fun j H' => Same H H' ∧ H' c = some (.lst (cutV (ns.map V.int) none (some 63))) ∧ H' D = some (.lst ((ms.take j).map V.int)))
    ⟨(Same.upd hc).trans (Same.upd hD), by rw [upd_ne (Ne.symm hDc)]; exact upd_same, upd_same⟩ (fun _ H' _ h => SqL.of h.2.1) (fun j x H' hx h => ?_) (fun H' h => ?_)
  · obtain ⟨hs, hc', hd'⟩ := h
    rw [hms, List.getElem?_map] at hx
    obtain ⟨m, hm, rfl⟩ := Option.map_eq_some_iff.mp hx
    refine ⟨rfl, ?_⟩
    simp only [tYes, if_true]
    refine ⟨_, rfl, .inl ⟨_, rfl, ?_⟩⟩
    refine ⟨_, hd', ?_, ?_, ?_, ?_⟩
    · rw [List.length_map, List.length_take]
      exact small1000 (by omega)
    · intro b o e
      rw [upd_ne (ne_of_none e hD0)]
      exact hs _ _ e
    · rw [upd_ne (Ne.symm hDc)]; exact hc'
    · rw [upd_same, take_more hm, List.map_append]; rfl
  · obtain ⟨hs, hc', hd'⟩ := h
    refine ⟨by show 4 ≤ sizeLine; decide, fun p hp => ?_⟩
    have hDp : D ≠ p := ne_of_none hd' hp
    rw [hms, List.length_map, List.take_length] at hd'
    exact k p D ms _ (hs.trans (Same.upd hp)) ⟨0, 0, 7, Int.le_refl 0, upd_same, by rw [upd_ne hDp]; exact hd'⟩
abbrev s_l_draw : Stmt := top 27
theorem sc_l_draw : FnScope ["d", "many", "found", "size", "cell"] ["d", "many"] (defScope s_l_draw) := ⟨rfl, rfl, rfl, by decide +kernel, rfl, by decide +kernel, by decide +kernel⟩

theorem ok_draw {f : Addr} {fd : FuncData} (F : Fun K "_law_draw" "_law_draw" s_l_draw f fd) (T : Txt K mg CR) : FnOk P w K mg base CX0 1 f fd ["d", "many"] spDraw := by
  refine F.ok sc_l_draw (fun vs H Q E h => ?_) (fun cdv A outer s H vs Q E hr h => ?_)
  · obtain ⟨d, l, ns, m, rfl, _⟩ := h
    rfl
  obtain ⟨d, l, ns, m, rfl, hDr, m0, m1, k⟩ := h
  have hne := hDr.ne
  obtain ⟨i, f, g, i0, hd, hl⟩ := hDr
  have hdm : CDivN f m := ⟨by omega, by omega⟩
  refine ⟨_, (pss_cons (ps_if (pt_cmpR op_gt (pe_ix ix_list (pv 0) pe_int (fun _ _ => rfl)) pe_int (nomark _)) (pss_cons (ps_set (i := 2) sc_l_draw.nd rfl (Or.inl rfl) (pe_ix ix_list (pv 0) pe_int (fun _ _ => rfl)))
    (pss_cons (ps_asg (pe_op op_fdivN (pv 2) (pv 1)) (pg_sub (pv 0) pe_int set_list))
    (pss_one (ps_ret (pe_op op_modN (pe_callTy call_int1 (by rfl) T.z_int b_int (pa_cons (pv 2) pa_nil)) (pv 1)))))) pss_nil)
    (pss_cons (ps_set (i := 3) sc_l_draw.nd rfl (Or.inl rfl) pe_int)
    (C8.pss_cut (ps_if (pt_cmpR op_lt (pe_ix ix_list (pv 0) pe_int (fun _ _ => rfl)) (pe_callB call_len_seq (by rfl) T.z_len b_len (pa_cons (pe_ix ix_list (pv 0) pe_int (fun _ _ => rfl)) pa_nil)) (nomark _)) (pss_cons (ps_set (i := 4) sc_l_draw.nd rfl (Or.inl rfl) (pe_ix ix_list (pe_ix ix_list (pv 0) pe_int (fun _ _ => rfl)) (pe_ix ix_list (pv 0) pe_int (fun _ _ => rfl)) (fun _ _ => rfl)))
    (pss_one (ps_set (i := 3) sc_l_draw.nd rfl (Or.inl rfl) (pe_op op_add (pe_op op_mul pe_int (pe_callB call_abs (by rfl) T.z_abs b_abs (pa_cons (pv 4) pa_nil))) (pe_callTy call_int1 (by rfl) T.z_int b_int (pa_cons (pe_cmpR op_lt (pv 4) pe_int (nomark _)) pa_nil)))))) pss_nil)
    (pss_cons (ps_augS (pv 0) pe_int get_list pe_int ip_add set_list)
    (pss_cons (ps_if (pt_cmpR op_ge (pv 3) (pe_op op_mul pe_int (pe_op op_pow pe_int pe_int)) (nomark _)) (pss_cons (ps_set (i := 2) sc_l_draw.nd rfl (Or.inl rfl) (pe_op op_modN (pe_callTy call_int1 (by rfl) T.z_int b_int (pa_cons (pe_op op_fdivN (pv 3) pe_int) pa_nil)) (pe_op op_shl pe_int pe_int)))
    (pss_cons (ps_asg (pe_op op_fdivN (pv 2) (pv 1)) (pg_sub (pv 0) pe_int set_list))
    (pss_one (ps_ret (pe_op op_modN (pe_callTy call_int1 (by rfl) T.z_int b_int (pa_cons (pv 2) pa_nil)) (pv 1)))))) pss_nil)
    (pss_cons (ps_asg (pe_op op_modN (pe_callTy call_int1 (by rfl) T.z_int b_int (pa_cons (pe_op op_add (pe_op op_add (pe_op op_add (pe_op op_mul (pe_ix ix_list (pv 0) pe_int (fun _ _ => rfl)) pe_int) (pe_op op_mul (pe_op op_modN (pe_callTy call_int1 (by rfl) T.z_int b_int (pa_cons (pv 3) pa_nil)) pe_int) pe_int)) (pe_op op_mul (pe_ix ix_list (pv 0) pe_int (fun _ _ => rfl)) pe_int)) pe_int) pa_nil)) pe_int) (pg_sub (pv 0) pe_int set_list))
    (pss_one (ps_ret (pe_op op_modN (pe_callTy call_int1 (by rfl) T.z_int b_int (pa_cons (pe_op op_fdivN (pe_ix ix_list (pv 0) pe_int (fun _ _ => rfl)) pe_int) pa_nil)) (pv 1)))))))))), ?_⟩
  refine ⟨_, rfl, d, _, 2, _, rfl, rfl, SqL.of hd, rfl, _, _, rfl, rfl, _, rfl, ite2 (fun _ => ?_) (fun _ => ?_)⟩
  · refine ⟨_, rfl, d, _, 2, _, rfl, rfl, SqL.of hd, rfl, ?_⟩
    refine ⟨_, rfl, _, rfl, _, _, rfl, rfl, ⟨by omega, by omega⟩, _, rfl, d, _, 2, 2, rfl, rfl, hd, rfl, ?_⟩
    refine ⟨_, rfl, .inl ⟨_, rfl, _, rfl, _, _, rfl, rfl, by omega, ?_⟩⟩
    exact k _ _ (fmod_lo m0) (fmod_hi m0) Keep.upd ⟨i, _, g, i0, upd_same, by rw [upd_ne hne]; exact hl⟩
  · refine ⟨fun σ' H' => (∃ sz c, σ' = [some (.ref d), some (.int m), none, some (.int sz), c]) ∧ H' = H, ?_, ?_⟩
    · refine ⟨_, rfl, d, _, 1, _, rfl, rfl, SqL.of hd, rfl, _, rfl, d, _, 0, _, rfl, rfl, SqL.of hd, rfl, l, _, rfl, .inl (SqL.of hl), _, _, rfl, rfl, _, rfl, ite2 (fun c => ?_) (fun _ => ⟨⟨_, _, rfl⟩, rfl⟩)⟩
      have c' : i < (((ns.map V.int).length : Nat) : Int) := of_decide_eq_true c
      rw [List.length_map] at c'
      obtain ⟨v, hv⟩ : ∃ v : Int, atI (ns.map V.int) i = some (.int v) := by
        have hi : i.toNat < ns.length := by omega
        refine ⟨ns[i.toNat], ?_⟩
        have q : atI (ns.map V.int) ((i.toNat : Nat) : Int) = some (.int ns[i.toNat]) := atI_nat (by rw [List.getElem?_map, List.getElem?_eq_getElem hi]; rfl)
        rw [show ((i.toNat : Nat) : Int) = i by omega] at q
        exact q
      refine ⟨_, rfl, d, _, 0, _, rfl, rfl, SqL.of hd, rfl, _, rfl, d, _, 1, _, rfl, rfl, SqL.of hd, rfl, l, _, i, _, rfl, rfl, SqL.of hl, hv, ?_⟩
      refine ⟨_, rfl, _, rfl, _, _, rfl, rfl, .inl (by decide), _, rfl, _, _, rfl, rfl, ?_⟩
      refine .inr ⟨_, rfl, _, _, rfl, rfl, ⟨_, _, rfl⟩, rfl⟩
    · rintro σ' H' ⟨⟨sz, c, rfl⟩, rfl⟩
      have hd1 := hd
      refine ⟨_, rfl, d, _, 1, _, rfl, rfl, SqL.of hd, by decide, rfl, _, _, rfl, rfl, d, _, 1, 1, rfl, rfl, hd, rfl, ?_⟩
      have hd2 : upd H' d (HO.lst [.ref l, .int (i + 1), .int f, .int g]) d = some (.lst [.ref l, .int (i + 1), .int f, .int g]) := upd_same
      have hl2 : upd H' d (HO.lst [.ref l, .int (i + 1), .int f, .int g]) l = some (.lst (ns.map V.int)) := by rw [upd_ne hne]; exact hl
      have k2 : Keep d H' (upd H' d (HO.lst [.ref l, .int (i + 1), .int f, .int g])) := Keep.upd
      refine ⟨_, rfl, _, _, rfl, rfl, ⟨by decide, by decide, by decide⟩, _, _, rfl, rfl, .inl (by decide), _, _, rfl, rfl, _, rfl, ite2 (fun _ => ?_) (fun _ => ?_)⟩
      · refine ⟨_, rfl, _, _, rfl, rfl, ⟨by decide, by decide⟩, .inl ⟨_, rfl, _, _, rfl, rfl, ⟨by decide, by decide, by decide⟩, _, _, rfl, rfl, ?_, ?_⟩⟩
        · show (1 : Int) * 2 ^ (6000 : Int).toNat ≠ 0
          rw [Int.one_mul]
          exact Int.ne_of_gt (Int.pow_pos (by decide))
        refine ⟨_, rfl, _, rfl, _, _, rfl, rfl, ⟨by omega, by omega⟩, _, rfl, d, _, 2, 2, rfl, rfl, hd2, rfl, ?_⟩
        refine ⟨_, rfl, .inl ⟨_, rfl, _, rfl, _, _, rfl, rfl, by omega, ?_⟩⟩
        exact k _ _ (fmod_lo m0) (fmod_hi m0) (k2.trans Keep.upd) ⟨i + 1, _, g, by omega, upd_same, by rw [upd_ne hne]; exact hl2⟩
      · refine ⟨_, rfl, d, _, 3, _, rfl, rfl, SqL.of hd2, rfl, _, _, rfl, rfl, .inr (by decide), _, rfl, .inl ⟨_, rfl, _, _, rfl, rfl, (show (2147483629 : Int) ≠ 0 by decide), _, _, rfl, rfl, .inr (by decide), _, _, rfl, rfl, ?_⟩⟩
        refine ⟨_, rfl, d, _, 1, _, rfl, rfl, SqL.of hd2, rfl, _, _, rfl, rfl, .inr (by decide), _, _, rfl, rfl, _, _, rfl, rfl, ?_⟩
        refine .inl ⟨_, rfl, _, _, rfl, rfl, (show (2147483647 : Int) ≠ 0 by decide), _, rfl, d, _, 3, 3, rfl, rfl, hd2, rfl, ?_⟩
        have hd3 : ∀ x : V, upd (upd H' d (HO.lst [.ref l, .int (i + 1), .int f, .int g])) d (HO.lst [.ref l, .int (i + 1), .int f, x]) d = some (HO.lst [.ref l, .int (i + 1), .int f, x]) := fun x => upd_same
        refine ⟨_, rfl, d, _, 3, _, rfl, rfl, SqL.of (hd3 _), rfl, _, _, rfl, rfl, ⟨by decide, by decide⟩, .inl ⟨_, rfl, _, rfl, _, _, rfl, rfl, by omega, ?_⟩⟩
        exact k _ _ (fmod_lo m0) (fmod_hi m0) (k2.trans Keep.upd) ⟨i + 1, f, _, by omega, upd_same, by rw [upd_ne hne]; exact hl2⟩
abbrev s_l_pick : Stmt := top 28
theorem sc_l_pick : FnScope ["d", "row"] ["d", "row"] (defScope s_l_pick) := ⟨rfl, rfl, rfl, by decide +kernel, rfl, by decide +kernel, by decide +kernel⟩

theorem ok_pick {f : Addr} {fd : FuncData} (F : Fun K "_law_pick" "_law_pick" s_l_pick f fd) (T : Txt K mg CR) (C__law_draw : CalX P w K mg base CX0 1 "_law_draw" spDraw) : FnOk P w K mg base CX0 2 f fd ["d", "row"] spPick := by
  refine F.ok sc_l_pick (fun vs H Q E h => ?_) (fun cdv A outer s H vs Q E hr h => ?_)
  · obtain ⟨d, l, r, ns, xs, rfl, _⟩ := h
    rfl
  obtain ⟨d, l, r, ns, xs, rfl, hDr, hrd, hR, hne, hlen, k⟩ := h
  have hpos : 0 < xs.length := List.length_pos_iff.mpr hne
  refine ⟨_, (pss_one (ps_ret (pe_ix ix_list (pv 1) (pe_u C__law_draw hr (by omega) pass0 (pa_cons (pv 0) (pa_cons (pe_callB call_len_seq (by rfl) T.z_len b_len (pa_cons (pv 1) pa_nil)) pa_nil))) (fun _ _ => rfl)))), ?_⟩
  refine ⟨_, rfl, _, rfl, _, rfl, r, _, rfl, .inl (SqL.of hR), d, l, ns, _, rfl, hDr, by omega, by omega, fun j H' j0 j1 kp hDr' => ?_⟩
  have hj : j.toNat < xs.length := by omega
  have hR' := kp _ _ hrd hR
  have q : atI xs ((j.toNat : Nat) : Int) = some xs[j.toNat] := atI_nat (List.getElem?_eq_getElem hj)
  rw [show ((j.toNat : Nat) : Int) = j by omega] at q
  exact ⟨r, xs, j, _, rfl, rfl, SqL.of hR', q, k _ _ (List.getElem_mem hj) kp hDr'⟩
end
end Toy

set_option Elab.async false
set_option linter.all false
set_option maxRecDepth 100000
set_option maxHeartbeats 4000000
namespace Toy
open PySem L2
/-! the law's search for a full watcher -/
def runT (δ : Nat → Nat → Nat) : Nat → List Nat → Nat
  | r, [] => r
  | r, c :: w => runT δ (δ r c) w
theorem runT_of {δ : Nat → Nat → Nat} {k : Lk} (h : ∀ r c s, k r c = some s → δ r c = s) : ∀ (w : List Nat) (r s : Nat), run k r w = some s → runT δ r w = s
  | [], r, s, e => by injection e
  | c :: w, r, s, e => by
    unfold run at e
    cases g : k r c with
    | none => rw [g] at e; cases e
    | some t =>
      rw [g] at e
      unfold runT
      rw [h r c t g]
      exact runT_of h w t s e
/-- a full watcher with m rows over k that fits the samples -/
def Fits (m : Nat) (ss : List (List Nat × Nat)) (k : Lk) : Prop := ∃ δ : Nat → Nat → Nat, (∀ r c s, k r c = some s → δ r c = s) ∧ (∀ r c, r < m → c < 2 → δ r c < m) ∧ ∀ x ∈ ss, ∀ y ∈ ss, runT δ 0 x.1 = runT δ 0 y.1 → x.2 = y.2
theorem Fits.down {m : Nat} {ss : List (List Nat × Nat)} {k k' : Lk} (le : k.le k') (h : Fits m ss k') : Fits m ss k := by
  obtain ⟨δ, h1, h2, h3⟩ := h
  exact ⟨δ, fun r c s e => h1 r c s (le r c s e), h2, h3⟩
theorem Fits.up {m : Nat} {ss : List (List Nat × Nat)} {k : Lk} {s c : Nat} (hs : s < m) (hc : c < 2) (h : Fits m ss k) : ∃ o, o < m ∧ Fits m ss (k.put s c o) := by
  obtain ⟨δ, h1, h2, h3⟩ := h
  refine ⟨δ s c, h2 s c hs hc, δ, fun r c' t e => ?_, h2, h3⟩
  unfold Lk.put at e
  by_cases q : r = s ∧ c' = c
  · rw [if_pos q] at e
    rw [q.1, q.2]
    exact Option.some.inj e
  · rw [if_neg q] at e
    exact h1 r c' t e
theorem fits_all {m : Nat} {ss : List (List Nat × Nat)} {k : Lk} (hm : 0 < m) (lt : ∀ r c s, k r c = some s → s < m) (all : ∀ x ∈ ss, (run k 0 x.1).isSome = true) (co : ∀ x ∈ ss, ∀ y ∈ ss, run k 0 x.1 = run k 0 y.1 → x.2 = y.2) : Fits m ss k := by
  have h1 : ∀ r c s, k r c = some s → (k r c).getD 0 = s := fun r c s e => by rw [e]; rfl
  refine ⟨fun r c => (k r c).getD 0, h1, fun r c _ _ => ?_, fun x hx y hy e => co x hx y hy ?_⟩
  · show (k r c).getD 0 < m
    cases g : k r c with
    | none => exact hm
    | some s => exact lt r c s g
  · obtain ⟨s, hs⟩ := Option.isSome_iff_exists.mp (all x hx)
    obtain ⟨t, ht⟩ := Option.isSome_iff_exists.mp (all y hy)
    rw [runT_of h1 _ _ _ hs, runT_of h1 _ _ _ ht] at e
    rw [hs, ht, e]
def kp (p : Nat × Nat) : List Key := [Sum.inl (p.1 : Int), Sum.inl (p.2 : Int)]
theorem kp_inj {p q : Nat × Nat} (h : kp p = kp q) : p = q := by
  unfold kp at h
  injection h with h1 h2
  injection h2 with h2 _
  exact Prod.ext (by injection h1 with h1; omega) (by injection h2 with h2; omega)
/-- the links k as a dict at d, the keys ns -/
structure LkD (H : Hp) (d : Addr) (m : Nat) (k : Lk) (ns : List (Nat × Nat)) (mm : List (List Key × V)) : Prop where
  at_ : H d = some (.dT mm)
  keys : mm.map (·.1) = ns.map kp
  nd : ns.Nodup
  lt : ∀ p ∈ ns, p.1 < m ∧ p.2 < 2
  val : ∀ r c : Nat, valV mm (kp (r, c)) = (k r c).map fun v => V.int ((v : Nat) : Int)
  vlt : ∀ r c s, k r c = some s → s < m
theorem hs00 : hashT [0, 0] = -8458139203682520985 := by
  unfold hashT Builtin.Tuple.tupleHashOf reduceHash hashInt rawHash
  simp
theorem hs01 : hashT [0, 1] = -1950498447580522560 := by
  unfold hashT Builtin.Tuple.tupleHashOf reduceHash hashInt rawHash
  simp
theorem hs10 : hashT [1, 0] = -5164621852614943976 := by
  unfold hashT Builtin.Tuple.tupleHashOf reduceHash hashInt rawHash
  simp
theorem hs11 : hashT [1, 1] = 8389048192121911274 := by
  unfold hashT Builtin.Tuple.tupleHashOf reduceHash hashInt rawHash
  simp
theorem hs20 : hashT [2, 0] = 4685526799349444076 := by
  unfold hashT Builtin.Tuple.tupleHashOf reduceHash hashInt rawHash
  simp
theorem hs21 : hashT [2, 1] = 6794810172467074373 := by
  unfold hashT Builtin.Tuple.tupleHashOf reduceHash hashInt rawHash
  simp
def tabP : Nat × Nat → Int
  | (0, 0) => -8458139203682520985
  | (0, 1) => -1950498447580522560
  | (1, 0) => -5164621852614943976
  | (1, 1) => 8389048192121911274
  | (2, 0) => 4685526799349444076
  | (2, 1) => 6794810172467074373
  | _ => 0
theorem tabP_is : ∀ p ∈ [(0,0),(0,1),(1,0),(1,1),(2,0),((2:Nat),(1:Nat))], hashT [((p : Nat × Nat).1 : Int), (p.2 : Int)] = tabP p := by
  intro p hp
  simp only [List.mem_cons, List.not_mem_nil, or_false] at hp
  rcases hp with rfl | rfl | rfl | rfl | rfl | rfl
  · simpa [tabP] using hs00
  · simpa [tabP] using hs01
  · simpa [tabP] using hs10
  · simpa [tabP] using hs11
  · simpa [tabP] using hs20
  · simpa [tabP] using hs21
theorem tabP_inj : ∀ p ∈ [(0,0),(0,1),(1,0),(1,1),(2,0),((2:Nat),(1:Nat))], ∀ q ∈ [(0,0),(0,1),(1,0),(1,1),(2,0),((2:Nat),(1:Nat))], tabP p = tabP q → p = q := by decide
theorem pair_hash (p : Nat × Nat) (hp : p ∈ [(0,0),(0,1),(1,0),(1,1),(2,0),((2:Nat),(1:Nat))]) (q : Nat × Nat) (hq : q ∈ [(0,0),(0,1),(1,0),(1,1),(2,0),((2:Nat),(1:Nat))]) (e : hashT [(p.1 : Int), (p.2 : Int)] = hashT [(q.1 : Int), (q.2 : Int)]) : p = q := by
  rw [tabP_is p hp, tabP_is q hq] at e
  exact tabP_inj p hp q hq e
theorem six {p : Nat × Nat} (h : p.1 < 3 ∧ p.2 < 2) : p ∈ [(0,0),(0,1),(1,0),(1,1),(2,0),((2:Nat),(1:Nat))] := by
  obtain ⟨a, b⟩ := p
  obtain ⟨h1, h2⟩ := h
  have h1 : a < 3 := h1
  have h2 : b < 2 := h2
  have ha : a = 0 ∨ a = 1 ∨ a = 2 := by omega
  have hb : b = 0 ∨ b = 1 := by omega
  rcases ha with rfl | rfl | rfl <;> rcases hb with rfl | rfl <;> simp
theorem LkD.hash {H : Hp} {d : Addr} {m : Nat} {k : Lk} {ns : List (Nat × Nat)} {mm : List (List Key × V)} (h : LkD H d m k ns mm) (hm : m ≤ 3) :
    mm.map (·.1) = (ns.map fun p => [((p.1 : Nat) : Int), ((p.2 : Nat) : Int)]).map (fun n => n.map Sum.inl) ∧ ((ns.map fun p => [((p.1 : Nat) : Int), ((p.2 : Nat) : Int)]).map hashT).Nodup := by
  refine ⟨by rw [h.keys, List.map_map]; rfl, ?_⟩
  refine List.pairwise_map.mpr (List.pairwise_map.mpr (h.nd.imp_of_mem fun {p q} hp hq ne e => ne ?_))
  have lp := h.lt p hp
  have lq := h.lt q hq
  exact pair_hash p (six ⟨by omega, lp.2⟩) q (six ⟨by omega, lq.2⟩) e
theorem LkD.len {H : Hp} {d : Addr} {m : Nat} {k : Lk} {ns : List (Nat × Nat)} {mm : List (List Key × V)} (h : LkD H d m k ns mm) : mm.length = ns.length := by
  have := congrArg List.length h.keys
  simpa using this
theorem LkD.same {H H' : Hp} {d : Addr} {m : Nat} {k : Lk} {ns : List (Nat × Nat)} {mm : List (List Key × V)} (h : LkD H d m k ns mm) (s : Same H H') : LkD H' d m k ns mm := ⟨s _ _ h.at_, h.keys, h.nd, h.lt, h.val, h.vlt⟩
theorem LkD.mem {H : Hp} {d : Addr} {m : Nat} {k : Lk} {ns : List (Nat × Nat)} {mm : List (List Key × V)} (h : LkD H d m k ns mm) {r c : Nat} : (r, c) ∈ ns ↔ (k r c).isSome = true := by
  have e : (valV mm (kp (r, c))).isSome = (k r c).isSome := by rw [h.val]; cases k r c <;> rfl
  rw [← e, ← valV_any, List.any_eq_true]
  constructor
  · intro hm
    have : kp (r, c) ∈ mm.map (·.1) := by rw [h.keys]; exact List.mem_map.mpr ⟨_, hm, rfl⟩
    obtain ⟨p, hp, e⟩ := List.mem_map.mp this
    exact ⟨p, hp, decide_eq_true e⟩
  · rintro ⟨p, hp, e⟩
    have : p.1 ∈ ns.map kp := by rw [← h.keys]; exact List.mem_map.mpr ⟨p, hp, rfl⟩
    obtain ⟨q, hq, e2⟩ := List.mem_map.mp this
    have := kp_inj (e2.trans (of_decide_eq_true e))
    rwa [← this]
/-- a further link -/
theorem LkD.put {H : Hp} {d d2 : Addr} {m : Nat} {k : Lk} {ns : List (Nat × Nat)} {mm : List (List Key × V)} (h : LkD H d m k ns mm) {r c o : Nat} (hr : r < m) (hc : c < 2) (ho : o < m) (hn : k r c = none) {H' : Hp} (e : H' d2 = some (.dT (putK mm (kp (r, c)) (.int ((o : Nat) : Int))))) :
    LkD H' d2 m (k.put r c o) (ns ++ [(r, c)]) (putK mm (kp (r, c)) (.int ((o : Nat) : Int))) := by
  have vn : valV mm (kp (r, c)) = none := by rw [h.val, hn]; rfl
  refine ⟨e, ?_, ?_, fun p hp => ?_, fun r' c' => ?_, fun r' c' s' e' => ?_⟩
  · rw [put_fresh vn, List.map_append, List.map_append, h.keys]; rfl
  · refine List.nodup_append.mpr ⟨h.nd, by simp, fun x hx y hy e => ?_⟩
    simp at hy
    subst hy; subst e
    have := h.mem.mp hx
    rw [hn] at this; cases this
  · rcases List.mem_append.mp hp with z | z
    · exact h.lt p z
    · simp at z; subst z; exact ⟨hr, hc⟩
  · rw [valV_put, h.val]
    unfold Lk.put
    by_cases q : r' = r ∧ c' = c
    · obtain ⟨rfl, rfl⟩ := q
      rw [if_pos rfl, if_pos ⟨rfl, rfl⟩]; rfl
    · rw [if_neg q, if_neg fun z => q ⟨congrArg Prod.fst (kp_inj z), congrArg Prod.snd (kp_inj z)⟩]
  · unfold Lk.put at e'
    by_cases q : r' = r ∧ c' = c
    · rw [if_pos q] at e'; injection e' with e'; omega
    · rw [if_neg q] at e'; exact h.vlt _ _ _ e'
def smD (x : List Nat × Nat) : Da := .tup [wd x.1, .int ((x.2 : Nat) : Int)]
def spFit : Nat → Sp
  | 0 => fun _ _ _ _ => False
  | n + 1 => fun vs H Q _ => ∃ p d us ss m k ns mm, vs = [.ref p, .int ((m : Nat) : Int), .ref d] ∧ H p = some (.lst us) ∧ DVs H us (ss.map smD) ∧ (∀ x ∈ ss, ∀ c ∈ x.1, c < 2) ∧ ss.length ≤ 900 ∧ LkD H d m k ns mm ∧ 0 < m ∧ m ≤ 3 ∧ 2 * m ≤ ns.length + n ∧
    ∀ b H', (b = true ↔ Fits m ss k) → Same H H' → Q (.bl b) H'
end Toy

set_option Elab.async false
set_option linter.all false
set_option maxRecDepth 100000
set_option maxHeartbeats 4000000
namespace Toy
open PySem L2
section
variable {P : Program} {w : World} {K : PySem.W.Frag} {mg : Str → Option Value} {base : Heap} {CR : Addr}
theorem nd_le : ∀ (n : Nat) (l : List Nat), l.Nodup → (∀ x ∈ l, x < n) → l.length ≤ n
  | 0, l, _, h => by
    cases l with
    | nil => exact Nat.le_refl _
    | cons a l => exact absurd (h a (by simp)) (Nat.not_lt_zero _)
  | n + 1, l, nd, h => by
    have ih := nd_le n (l.erase n) (nd.erase n) fun x hx => by
      have := (nd.mem_erase_iff).mp hx
      have := h x this.2
      omega
    by_cases m : n ∈ l
    · rw [List.length_erase_of_mem m] at ih; omega
    · rw [List.erase_of_not_mem m] at ih; omega
theorem LkD.few {H : Hp} {d : Addr} {m : Nat} {k : Lk} {ns : List (Nat × Nat)} {mm : List (List Key × V)} (h : LkD H d m k ns mm) {r c : Nat} (hr : r < m) (hc : c < 2) (hn : k r c = none) : ns.length + 1 ≤ 2 * m := by
  have nd : (ns ++ [(r, c)]).Nodup := List.nodup_append.mpr ⟨h.nd, by simp, fun x hx y hy e => by
    simp at hy; subst hy; subst e
    have := h.mem.mp hx
    rw [hn] at this; cases this⟩
  have lt : ∀ p ∈ ns ++ [(r, c)], p.1 < m ∧ p.2 < 2 := fun p hp => by
    rcases List.mem_append.mp hp with z | z
    · exact h.lt p z
    · simp at z; subst z; exact ⟨hr, hc⟩
  have := nd_le (2 * m) ((ns ++ [(r, c)]).map fun p => 2 * p.1 + p.2) (List.pairwise_map.mpr (nd.imp_of_mem fun {p q} hp hq ne e => ne (by
    have := lt p hp
    have := lt q hq
    exact Prod.ext (by omega) (by omega)))) fun x hx => by
      obtain ⟨p, hp, rfl⟩ := List.mem_map.mp hx
      have := lt p hp
      omega
  rw [List.length_map, List.length_append, List.length_singleton] at this
  exact this
theorem kp_vs (r c : Nat) : (kp (r, c)).map kV = [V.int (r : Int), V.int (c : Int)] := rfl
abbrev s_l_fit : Stmt := top 30
theorem sc_l_fit : FnScope ["samples", "many", "links", "ends", "word", "label", "row", "cell", "key", "other", "more"] ["samples", "many", "links"] (defScope s_l_fit) := ⟨rfl, rfl, rfl, by decide +kernel, rfl, by decide +kernel, by decide +kernel⟩

theorem ok_fit {n : Nat} {f : Addr} {fd : FuncData} (F : Fun K "_law_fit" "_law_fit" s_l_fit f fd) (T : Txt K mg CR) (C__law_fit : CalX P w K mg base CX0 (n + 1) "_law_fit" (spFit n)) : FnOk P w K mg base CX0 (n + 2) f fd ["samples", "many", "links"] (spFit (n + 1)) := by
  refine F.ok sc_l_fit (fun vs H Q E h => ?_) (fun cdv A outer s H vs Q E hr h => ?_)
  · obtain ⟨p, d, us, ss, m, k, ns, mm, rfl, _⟩ := h
    rfl
  obtain ⟨p, d, us, ss, m, k, ns, mm, rfl, hp, hus, bin, few, L, m0, m3, ms, kk⟩ := h
  have hr : Room (n + 1) _ := hr
  have hul := hus.length
  rw [List.length_map] at hul
  refine ⟨_, (pss_cons (ps_set (i := 3) sc_l_fit.nd rfl (Or.inl rfl) pe_dnewK)
    (pss_cons (ps_for PassesOwn.never rfl (pi_list (pv 0)) (pg_tup (by rfl) (pgs_cons (pg_name (i := 4) sc_l_fit.nd rfl (Or.inl rfl)) (pgs_cons (pg_name (i := 5) sc_l_fit.nd rfl (Or.inl rfl)) pgs_nil))) (pss_cons (ps_set (i := 6) sc_l_fit.nd rfl (Or.inl rfl) pe_int)
    (pss_cons (ps_for PassesOwn.never rfl (pi_tup (pv 4)) (pg_name (i := 7) sc_l_fit.nd rfl (Or.inl rfl)) (pss_cons (ps_set (i := 8) sc_l_fit.nd rfl (Or.inl rfl) (pe_tup (pa_cons (pv 6) (pa_cons (pv 7) pa_nil))))
    (pss_cons (ps_if (pt_cmp (pc_dnotin (hu_b hr) (pv 8) (pv 2)) rfl) (pss_cons (ps_for PassesOwn.never rfl (pi_range1 (by rfl) T.z_range (pa_cons (pv 1) pa_nil)) (pg_name (i := 9) sc_l_fit.nd rfl (Or.inl rfl)) (pss_cons (ps_set (i := 10) sc_l_fit.nd rfl (Or.inl rfl) (pe_callTy (call_dictT (hu_d hr)) (by rfl) T.z_dict b_dict (pa_cons (pv 2) pa_nil)))
    (pss_cons (ps_dput (hu_b hr) (pv 10) (pv 8) (pv 9) rfl)
    (pss_one (ps_if (pt_val (pe_u C__law_fit hr (by omega) pass0 (pa_cons (pv 0) (pa_cons (pv 1) (pa_cons (pv 10) pa_nil))))) (pss_one (ps_ret pe_bl)) pss_nil)))))
    (pss_one (ps_ret pe_bl))) pss_nil)
    (pss_one (ps_set (i := 6) sc_l_fit.nd rfl (Or.inl rfl) (pe_dget (hu_b hr) (pv 2) (pv 8) (fun _ _ => rfl)))))))
    (pss_one (ps_if (pt_cmpR op_ne (pe_dsetd (pv 3) (pv 6) (pv 5) ⟨by rfl, by rfl, by rfl, by rfl⟩) (pv 5) (nomark _)) (pss_one (ps_ret pe_bl)) pss_nil)))))
    (pss_one (ps_ret pe_bl)))), ?_⟩
  intro e he
  refine ⟨_, rfl, p, rfl, ⟨_, SqL.of (by rw [upd_ne (ne_of_none hp he)]; exact hp)⟩, for_list (K := K) (a := p) (xs := us) (fun i σ H' => Same H H' ∧ (∃ g4 g5 g6 g7 g8 g9 g10, σ = [some (.ref p), some (.int ((m : Nat) : Int)), some (.ref d), some (.ref e), g4, g5, g6, g7, g8, g9, g10]) ∧ ∃ me, H' e = some (.dK me) ∧ me.length ≤ i ∧
      (∀ j x, j < i → ss[j]? = some x → ∃ r, run k 0 x.1 = some r ∧ valV me (Sum.inl (r : Int)) = some (.int ((x.2 : Nat) : Int))) ∧
      (∀ (r : Nat) v, valV me (Sum.inl (r : Int)) = some v → ∃ j x, j < i ∧ ss[j]? = some x ∧ run k 0 x.1 = some r ∧ v = .int ((x.2 : Nat) : Int)))
    ⟨Same.upd he, ⟨_, _, _, _, _, _, _, rfl⟩, [], upd_same, Nat.le_refl _, fun j x z => absurd z (Nat.not_lt_zero _), fun r v z => nomatch z⟩ (fun i σ H' _ h => SqL.of (h.1 _ _ hp)) (fun i x σ H' hx h => ?_) (fun σ H' h => ?_)⟩
  · obtain ⟨s1, ⟨g4, g5, g6, g7, g8, g9, g10, rfl⟩, me, hme, mel, don, back⟩ := h
    obtain ⟨q, hq, dv⟩ := hus.get hx
    rw [List.getElem?_map] at hq
    obtain ⟨⟨w0, l0⟩, hw0, rfl⟩ := Option.map_eq_some_iff.mp hq
    obtain ⟨t, xs, rfl, ht, hxs⟩ := (dv.mono (same_tp s1)).inv
    cases hxs with
    | cons h1 h2 =>
      cases h2 with
      | cons h3 h4 =>
        cases h4
        cases h3
        obtain ⟨wp, rfl, hwp⟩ := h1.word
        have hi : i < us.length := (List.getElem?_eq_some_iff.mp hx).1
        refine ⟨t, _, rfl, SqT.of ht, rfl, _, _, rfl, _, _, rfl, rfl, ?_⟩
        refine ⟨_, rfl, wp, rfl, ⟨_, SqT.of hwp⟩, for_tup (K := K) (a := wp) (xs := w0.map fun c : Nat => V.int (c : Int)) (fun j σ H2 => Same H' H2 ∧ (∃ r g7 g8 g9 g10, σ = [some (.ref p), some (.int ((m : Nat) : Int)), some (.ref d), some (.ref e), some (.ref wp), some (.int ((l0 : Nat) : Int)), some (.int ((r : Nat) : Int)), g7, g8, g9, g10] ∧ r < m ∧ run k 0 (w0.take j) = some r))
          ⟨Same.refl _, 0, _, _, _, _, rfl, m0, rfl⟩ (fun j σ H2 _ h => SqT.of (h.1 _ _ hwp)) (fun j x σ H2 hx2 h => ?_) (fun σ H2 h => ?_)⟩
        · obtain ⟨s2, r, g7, g8, g9, g10, rfl, hrm, hrun⟩ := h
          rw [List.getElem?_map] at hx2
          obtain ⟨c, hc, rfl⟩ := Option.map_eq_some_iff.mp hx2
          have hc2 : c < 2 := bin _ (List.mem_of_getElem? hw0) c (List.mem_of_getElem? hc)
          have s12 := s1.trans s2
          have L2 := L.same s12
          refine ⟨_, rfl, _, rfl, by show 2 ≤ sizeLine; decide, fun kq hkq => ?_⟩
          have s3 : Same H (upd H2 kq (.tup [V.int (r : Int), V.int (c : Int)])) := s12.trans (Same.upd hkq)
          have s3' : Same H' (upd H2 kq (.tup [V.int (r : Int), V.int (c : Int)])) := s2.trans (Same.upd hkq)
          have kk3 : upd H2 kq (.tup [V.int (r : Int), V.int (c : Int)]) kq = some (.tup ((kp (r, c)).map kV)) := upd_same
          generalize upd H2 kq (.tup [V.int (r : Int), V.int (c : Int)]) = H3 at s3 s3' kk3 ⊢
          have L3 := L.same s3
          have dg := DGet.t L3.at_ kk3
          rw [L3.val] at dg
          have rsn : run k 0 (w0.take (j + 1)) = k r c := by
            rw [List.take_succ, hc]
            show run k 0 (w0.take j ++ [c]) = _
            rw [run_snoc, hrun]
            rfl
          refine ⟨_, rfl, _, rfl, d, _, rfl, dg, _, rfl, ?_⟩
          cases g : k r c with
          | some s0 =>
            refine ifF (by simp) ?_
            rw [g] at dg
            refine ⟨_, rfl, _, rfl, d, _, rfl, dg, s3', s0, _, _, _, _, rfl, L.vlt _ _ _ g, by rw [rsn, g]⟩
          | none =>
            refine ifT (by simp) ?_
            refine ⟨_, rfl, _, rfl, by omega, by omega, ?_⟩
            refine for_range (lo := 0) (n := ((m : Nat) : Int).toNat) (fun o σ H4 => Same H3 H4 ∧ (∃ g9 g10, σ = [some (.ref p), some (.int ((m : Nat) : Int)), some (.ref d), some (.ref e), some (.ref wp), some (.int ((l0 : Nat) : Int)), some (.int ((r : Nat) : Int)), some (.int ((c : Nat) : Int)), some (.ref kq), g9, g10]) ∧ ∀ o', o' < o → ¬ Fits m ss (k.put r c o')) ⟨Same.refl _, ⟨_, _, rfl⟩, fun o' z => absurd z (Nat.not_lt_zero _)⟩ (fun o σ H4 ho h => ?_) (fun σ H4 h => ?_)
            · obtain ⟨s4, ⟨g9, g10, rfl⟩, nof⟩ := h
              have ho : o < m := by omega
              have L4 := L3.same s4
              obtain ⟨n', rfl⟩ : ∃ n', n = n' + 1 := ⟨n - 1, by have := L.few hrm hc2 g; omega⟩
              refine ⟨_, rfl, d, mm, _, rfl, L4.at_, (L4.hash m3).1, (L4.hash m3).2, fun p2 hp2 => ?_⟩
              have kq4 := s4 _ _ kk3
              refine ⟨_, rfl, _, rfl, _, rfl, p2, _, rfl, .t upd_same (by rw [upd_ne (ne_of_none kq4 hp2)]; exact kq4) (small1000 (by have := L4.len; have := L.few hrm hc2 g; omega)), ?_⟩
              have s5 : Same H4 (upd (upd H4 p2 (.dT mm)) p2 (.dT (putK mm (kp (r, c)) (.int (0 + (o : Int)))))) := fun b v e => by
                rw [upd_ne (ne_of_none e hp2), upd_ne (ne_of_none e hp2)]; exact e
              have h5 : upd (upd H4 p2 (.dT mm)) p2 (.dT (putK mm (kp (r, c)) (.int (0 + (o : Int))))) p2 = some (.dT (putK mm (kp (r, c)) (.int (0 + (o : Int))))) := upd_same
              generalize upd (upd H4 p2 (.dT mm)) p2 (.dT (putK mm (kp (r, c)) (.int (0 + (o : Int))))) = H5 at s5 h5 ⊢
              rw [show (0 : Int) + (o : Int) = ((o : Nat) : Int) by omega] at h5
              have s35 := s3.trans (s4.trans s5)
              refine ⟨_, rfl, _, rfl, _, rfl, p, p2, us, ss, m, k.put r c o, _, _, rfl, s35 _ _ hp, hus.mono (same_tp s35), bin, few, L4.put hrm hc2 ho g h5, m0, m3, ?_, fun b H6 hb s6 => ⟨_, rfl, ite2 (fun bt => ?_) (fun bf => ?_)⟩⟩
              · rw [List.length_append, List.length_singleton]; omega
              · exact kk true H6 ⟨fun _ => (hb.mp bt).down (put_le (.inl g)), fun _ => rfl⟩ (s35.trans s6)
              · refine ⟨s4.trans (s5.trans s6), ⟨_, _, rfl⟩, fun o' lt => ?_⟩
                by_cases c2 : o' = o
                · subst c2; exact fun z => bf (hb.mpr z)
                · exact nof o' (by omega)
            · obtain ⟨s4, ⟨g9, g10, rfl⟩, nof⟩ := h
              refine kk false H4 ⟨fun z => (by cases z), fun z => ?_⟩ (s3.trans s4)
              obtain ⟨o, ho, hf⟩ := z.up hrm hc2
              exact absurd hf (nof o (by omega))
        · obtain ⟨s2, r, g7, g8, g9, g10, rfl, hrm, hrun⟩ := h
          rw [List.length_map, List.take_length] at hrun
          have s12 := s1.trans s2
          have hme2 := s2 _ _ hme
          have next : ∀ {me' : List (Key × V)} {H5 : Hp}, Same H H5 → H5 e = some (.dK me') → me'.length ≤ i + 1 → (∀ r' : Nat, valV me' (Sum.inl (r' : Int)) = if r' = r then some (.int ((l0 : Nat) : Int)) else valV me (Sum.inl (r' : Int))) → (valV me (Sum.inl (r : Int)) = none ∨ valV me (Sum.inl (r : Int)) = some (.int ((l0 : Nat) : Int))) →
              Same H H5 ∧ (∃ a4 a5 a6 a7 a8 a9 a10, [some (V.ref p), some (.int ((m : Nat) : Int)), some (.ref d), some (.ref e), some (.ref wp), some (.int ((l0 : Nat) : Int)), some (.int ((r : Nat) : Int)), g7, g8, g9, g10] = [some (V.ref p), some (.int ((m : Nat) : Int)), some (.ref d), some (.ref e), a4, a5, a6, a7, a8, a9, a10]) ∧ ∃ me, H5 e = some (.dK me) ∧ me.length ≤ i + 1 ∧
                (∀ j x, j < i + 1 → ss[j]? = some x → ∃ r, run k 0 x.1 = some r ∧ valV me (Sum.inl (r : Int)) = some (.int ((x.2 : Nat) : Int))) ∧ (∀ (r : Nat) v, valV me (Sum.inl (r : Int)) = some v → ∃ j x, j < i + 1 ∧ ss[j]? = some x ∧ run k 0 x.1 = some r ∧ v = .int ((x.2 : Nat) : Int)) := by
            intro me' H5 s5 h5 l5 v5 old
            refine ⟨s5, ⟨_, _, _, _, _, _, _, rfl⟩, me', h5, l5, fun j x hj hx3 => ?_, fun r' v hv => ?_⟩
            · by_cases c : j = i
              · subst c
                rw [hw0] at hx3
                obtain rfl := Option.some.inj hx3
                exact ⟨r, hrun, by rw [v5, if_pos rfl]⟩
              · obtain ⟨r', h1, h2⟩ := don j x (by omega) hx3
                refine ⟨r', h1, ?_⟩
                rw [v5]
                by_cases c2 : r' = r
                · subst c2
                  rw [if_pos rfl]
                  rcases old with o | o
                  · rw [o] at h2; cases h2
                  · rw [o] at h2; exact h2
                · rw [if_neg c2]; exact h2
            · rw [v5] at hv
              by_cases c2 : r' = r
              · subst c2
                rw [if_pos rfl] at hv
                exact ⟨i, _, by omega, hw0, hrun, (Option.some.inj hv).symm⟩
              · rw [if_neg c2] at hv
                obtain ⟨j, x, h1, h2, h3, h4⟩ := back r' v hv
                exact ⟨j, x, by omega, h2, h3, h4⟩
          refine ⟨_, rfl, e, rfl, .inl ⟨me, .inl hme2⟩, _, rfl, _, rfl, me, Sum.inl ((r : Nat) : Int), hme2, rfl, small1000 (by omega), fun v hv => ?_, fun hv => ?_⟩
          · obtain ⟨j, x, h1, h2, h3, rfl⟩ := back r v hv
            refine ⟨_, rfl, rfl, _, rfl, ite2 (fun c => ?_) (fun c => ?_)⟩
            · have ne : x.2 ≠ l0 := fun z => by rw [z] at c; exact absurd c (by simp)
              refine kk false H2 ⟨fun z => (by cases z), fun z => ?_⟩ s12
              obtain ⟨δ, f1, f2, f3⟩ := z
              have := f3 x (List.mem_of_getElem? h2) (w0, l0) (List.mem_of_getElem? hw0) (by rw [runT_of f1 _ _ _ h3, runT_of f1 _ _ _ hrun])
              exact absurd this ne
            · have eq : x.2 = l0 := by
                have : V.int ((x.2 : Nat) : Int) = V.int ((l0 : Nat) : Int) := by simpa using c
                injection this with this; omega
              rw [eq] at hv
              refine next s12 hme2 (by omega) (fun r' => ?_) (.inr hv)
              by_cases c2 : r' = r
              · subst c2; rw [if_pos rfl]; exact hv
              · rw [if_neg c2]
          · refine ⟨_, rfl, rfl, _, rfl, ifF (by simp) ?_⟩
            refine next (fun b o e3 => ?_) upd_same ?_ (fun r' => ?_) (.inl hv)
            · rw [upd_ne (ne_of_none e3 he)]; exact s12 _ _ e3
            · have := length_putK me (Sum.inl ((r : Nat) : Int)) (V.int ((l0 : Nat) : Int))
              omega
            · rw [valV_put]
              by_cases c2 : r' = r
              · subst c2; rw [if_pos rfl, if_pos rfl]
              · rw [if_neg c2, if_neg fun z => c2 (by injection z with z; omega)]
  · obtain ⟨s1, ⟨g4, g5, g6, g7, g8, g9, g10, rfl⟩, me, hme, mel, don, back⟩ := h
    refine kk true H' ⟨fun _ => fits_all m0 L.vlt (fun x hx => ?_) (fun x hx y hy e2 => ?_), fun _ => rfl⟩ s1
    · obtain ⟨j, hj, rfl⟩ := List.getElem_of_mem hx
      obtain ⟨r, h1, _⟩ := don j _ (by omega) (List.getElem?_eq_getElem hj)
      rw [h1]; rfl
    · obtain ⟨j, hj, rfl⟩ := List.getElem_of_mem hx
      obtain ⟨i, hi, rfl⟩ := List.getElem_of_mem hy
      obtain ⟨r, h1, v1⟩ := don j _ (by omega) (List.getElem?_eq_getElem hj)
      obtain ⟨r', h2, v2⟩ := don i _ (by omega) (List.getElem?_eq_getElem hi)
      rw [h1, h2] at e2
      obtain rfl := Option.some.inj e2
      rw [v1] at v2
      injection v2 with v2
      injection v2 with v2
      omega
end
end Toy

set_option Elab.async false
set_option linter.all false
set_option maxRecDepth 100000
set_option maxHeartbeats 4000000
namespace Toy
open PySem L2
def dsj (R W : List (List Nat)) : Prop := ∀ w, w ∈ R → w ∉ W
/-- right and wrong samples as drawn -/
def spSamples (nmax : Nat) : Sp := fun vs H Q _ => ∃ (d l : Addr) (ns : List Int) (m : Nat), vs = [.ref d, .int ((m : Nat) : Int)] ∧ Dr H d l ns ∧ 0 < m ∧ m ≤ nmax ∧
  ∀ (v : V) (H' : Hp) (R W : List (List Nat)), Keep d H H' → Dr H' d l ns → DV H' v (sampD R W) → Bin R → Bin W → dsj R W → (∀ w ∈ R ++ W, w.length ≤ 3) → R.length + W.length ≤ m → Q v H'
theorem Dr.upd2 {H : Hp} {d l p : Addr} {ns : List Int} {o : HO} (h : Dr H d l ns) (h1 : p ≠ d) (h2 : p ≠ l) : Dr (upd H p o) d l ns := by
  obtain ⟨i, f, g, h0, e1, e2⟩ := h
  exact ⟨i, f, g, h0, by rw [upd_ne (Ne.symm h1)]; exact e1, by rw [upd_ne (Ne.symm h2)]; exact e2⟩
theorem Dr.at1 {H : Hp} {d l : Addr} {ns : List Int} (h : Dr H d l ns) : ∃ o, H d = some o := by
  obtain ⟨i, f, g, h0, e1, e2⟩ := h
  exact ⟨_, e1⟩
theorem Dr.at2 {H : Hp} {d l : Addr} {ns : List Int} (h : Dr H d l ns) : ∃ o, H l = some o := by
  obtain ⟨i, f, g, h0, e1, e2⟩ := h
  exact ⟨_, e2⟩
theorem Dr.new {H : Hp} {d l p : Addr} {ns : List Int} (h : Dr H d l ns) (hp : H p = none) : p ≠ d ∧ p ≠ l := by
  obtain ⟨o, e⟩ := h.at1
  obtain ⟨o2, e2⟩ := h.at2
  exact And.intro (fun z => by rw [z, e] at hp; cases hp) (fun z => by rw [z, e2] at hp; cases hp)
section
variable {P : Program} {w : World} {K : PySem.W.Frag} {mg : Str → Option Value} {base : Heap} {CR : Addr}
abbrev s_l_samples : Stmt := top 31
theorem sc_l_samples : FnScope ["d", "many", "right", "wrong", "k", "word", "j"] ["d", "many"] (defScope s_l_samples) := ⟨rfl, rfl, rfl, by decide +kernel, rfl, by decide +kernel, by decide +kernel⟩

theorem ok_samples {f : Addr} {fd : FuncData} (F : Fun K "_law_samples" "_law_samples" s_l_samples f fd) (T : Txt K mg CR) (C__law_draw : CalX P w K mg base CX0 1 "_law_draw" spDraw) (C__law_pick : CalX P w K mg base CX0 2 "_law_pick" spPick) : FnOk P w K mg base CX0 3 f fd ["d", "many"] (spSamples 100) := by
  refine F.ok sc_l_samples (fun vs H Q E h => ?_) (fun cdv A outer s H vs Q E hr h => ?_)
  · obtain ⟨d, l, ns, m, rfl, _⟩ := h
    rfl
  obtain ⟨d, l, ns, m, rfl, D0, m0, mh, k⟩ := h
  refine ⟨_, (pss_cons (ps_set (i := 2) sc_l_samples.nd rfl (Or.inl rfl) (pe_lst pa_nil))
    (pss_cons (ps_set (i := 3) sc_l_samples.nd rfl (Or.inl rfl) (pe_lst pa_nil))
    (pss_cons (ps_for PassesOwn.never rfl (pi_range1 (by rfl) T.z_range (pa_cons (pe_u C__law_draw hr (by omega) pass0 (pa_cons (pv 0) (pa_cons (pe_op op_add (pv 1) pe_int) pa_nil))) pa_nil)) (pg_name (i := 4) sc_l_samples.nd rfl (Or.inl rfl)) (pss_cons (ps_set (i := 5) sc_l_samples.nd rfl (Or.inl rfl) (pe_callTy call_tuple_of (by rfl) T.z_tuple b_tuple (pa_cons (pe_lc (own := [("j", 6)]) (g := gName 6) (by rfl) sc_l_samples.nd (pi_range1 (by rfl) T.z_range (pa_cons (pe_u C__law_draw hr (by omega) pass0 (pa_cons (pv 0) (pa_cons pe_int pa_nil))) pa_nil)) (blkOk_by (own := [("j", 6)]) (N := ["d", "many", "right", "wrong", "k", "word", "j"]) (sc := defScope s_l_samples) (by decide +kernel)) (fun _ _ _ _ _ => pg_name (i := 6) sc_l_samples.nd rfl (Or.inl rfl)) (fun _ _ _ _ _ => pts_nil) (fun _ _ _ _ _ => (pe_u C__law_draw hr (by omega) pass0 (pa_cons (pv 0) (pa_cons pe_int pa_nil))))) pa_nil)))
    (pss_one (ps_if (PW.pt (pw_and (pt_cmpR (op_niA (hu_a hr)) (pv 5) (pv 2) rfl) (pw_and1 (pt_cmpR (op_niA (hu_a hr)) (pv 5) (pv 3) rfl)))) (pss_one (ps_expr (pe_bm PySem.F.plainAttrs_list PySem.F.slot_list_append PySem.F.type_list_append mt_append (pe_u C__law_pick hr (by omega) pass0 (pa_cons (pv 0) (pa_cons (pe_lst (pa_cons (pv 2) (pa_cons (pv 3) pa_nil))) pa_nil))) (pa_cons (pv 5) pa_nil)))) pss_nil))))
    (pss_one (ps_ret (pe_tup (pa_cons (pe_callTy call_tuple_of (by rfl) T.z_tuple b_tuple (pa_cons (pv 2) pa_nil)) (pa_cons (pe_callTy call_tuple_of (by rfl) T.z_tuple b_tuple (pa_cons (pv 3) pa_nil)) pa_nil)))))))), ?_⟩
  refine ⟨by show 0 ≤ sizeLine; decide, fun pr hpr => ⟨by show 0 ≤ sizeLine; decide, fun pw hpw => ?_⟩⟩
  have prn := D0.new hpr
  have D1 := D0.upd2 (o := .lst []) prn.1 prn.2
  have pwn := D1.new hpw
  have D2 := D1.upd2 (o := .lst []) pwn.1 pwn.2
  have wr : pw ≠ pr := fun z => by rw [z, upd_same] at hpw; cases hpw
  have hpw0 : H pw = none := by rw [upd_ne wr] at hpw; exact hpw
  have K2 : Keep d H (upd (upd H pr (.lst [])) pw (.lst [])) := fun b o _ e => by rw [upd_ne (ne_of_none e hpw0), upd_ne (ne_of_none e hpr)]; exact e
  have hr2 : upd (upd H pr (.lst [])) pw (.lst []) pr = some (.lst []) := by rw [upd_ne (Ne.symm wr), upd_same]
  have hw2 : upd (upd H pr (.lst [])) pw (.lst []) pw = some (.lst []) := upd_same
  generalize upd (upd H pr (.lst [])) pw (.lst []) = H2 at D2 K2 hr2 hw2 ⊢
  refine ⟨_, rfl, _, rfl, _, _, rfl, rfl, d, l, ns, _, rfl, D2, by omega, by omega, fun r H3 r0 r1 k3 D3 => ⟨_, rfl, by omega, by omega, ?_⟩⟩
  have K3 := K2.trans k3
  refine for_range (lo := 0) (n := r.toNat) (fun i σ H' => Keep d H H' ∧ Dr H' d l ns ∧ (∃ g4 g5 g6, σ = [some (.ref d), some (.int ((m : Nat) : Int)), some (.ref pr), some (.ref pw), g4, g5, g6]) ∧ ∃ R W rs us, H' pr = some (.lst rs) ∧ H' pw = some (.lst us) ∧ DVs H' rs (R.map wd) ∧ DVs H' us (W.map wd) ∧ Bin R ∧ Bin W ∧ dsj R W ∧ (∀ w ∈ R ++ W, w.length ≤ 3) ∧ R.length + W.length ≤ i)
    ⟨K3, D3, ⟨_, _, _, rfl⟩, [], [], [], [], k3 _ _ prn.1 hr2, k3 _ _ pwn.1 hw2, .nil, .nil, (by intro w h; cases h), (by intro w h; cases h), (by intro w h; cases h), (by intro w h; cases h), Nat.le_refl _⟩ (fun i σ H' hi h => ?_) (fun σ H' h => ?_)
  · obtain ⟨K4, D4, ⟨g4, g5, g6, rfl⟩, R, W, rs, us, e1, e2, d1, d2, b1, b2', ds, l3, cnt⟩ := h
    refine ⟨_, rfl, d, l, ns, _, rfl, D4, by decide, by decide, fun n4 H5 n0 n1 k5 D5 => ⟨_, rfl, by omega, by omega, fun D hD => ?_⟩⟩
    have Dn := D5.new hD
    refine lc_range (lo := 0) (n := n4.toNat) (fun j H6 => Keep d H5 H6 ∧ Dr H6 d l ns ∧ ∃ w : List Nat, H6 D = some (.lst (w.map fun c : Nat => V.int (c : Int))) ∧ w.length = j ∧ ∀ c ∈ w, c < 2) ⟨(Same.upd hD).keep, D5.upd2 Dn.1 Dn.2, [], upd_same, rfl, by simp⟩ (fun j H6 hj h => ?_) (fun H6 h => ?_)
    · obtain ⟨k6, D6, w0, hw0, wl, wb⟩ := h
      refine ⟨rfl, ?_⟩
      simp only [tYes, if_true]
      refine ⟨_, rfl, d, l, ns, _, rfl, D6, by decide, by decide, fun c H7 c0 c1 k7 D7 => ⟨_, k7 _ _ Dn.1 hw0, ?_, ?_, ?_, w0 ++ [c.toNat], ?_, ?_, ?_⟩⟩
      · rw [List.length_map]; exact small1000 (by omega)
      · intro b o nb e
        rw [upd_ne (ne_of_none e hD)]
        exact k7 b o nb (k6 b o nb e)
      · exact D7.upd2 Dn.1 Dn.2
      · rw [upd_same, List.map_append]
        show some (HO.lst (_ ++ [V.int c])) = some (HO.lst (_ ++ [V.int ((c.toNat : Nat) : Int)]))
        rw [show ((c.toNat : Nat) : Int) = c by omega]
      · rw [List.length_append, wl]; rfl
      · intro x hx
        rcases List.mem_append.mp hx with z | z
        · exact wb x z
        · simp at z; omega
    · obtain ⟨k6, D6, w0, hw0, wl, wb⟩ := h
      refine ⟨D, _, rfl, .inl ⟨SqL.of hw0, fun tq htq => ?_⟩⟩
      have K6 := k5.trans k6
      have tqn := D6.new htq
      have s7 : Same H6 (upd H6 tq (.tup (w0.map fun c : Nat => V.int (c : Int)))) := Same.upd htq
      have h7 : upd H6 tq (.tup (w0.map fun c : Nat => V.int (c : Int))) tq = some (.tup (w0.map fun c : Nat => V.int (c : Int))) := upd_same
      generalize upd H6 tq (.tup (w0.map fun c : Nat => V.int (c : Int))) = H7 at s7 h7 ⊢
      have K7 : Keep d H' H7 := K6.trans s7.keep
      have D7 := D6.same s7
      have t7 := D4.tups K7
      have r7 := K7 _ _ prn.1 e1
      have w7 := K7 _ _ pwn.1 e2
      have dw : DV H7 (.ref tq) (wd w0) := .of_word h7
      refine ⟨_, rfl, _, rfl, wd w0, pr, rs, _, dw, rfl, .inr r7, d1.mono t7, Nat.le_trans (wd_deep _) (by decide), fun b hb => ⟨_, rfl, ?_⟩⟩
      rw [mem_wd] at hb
      have keepAll : Keep d H H7 := K4.trans K7
      refine ite2 (fun c1 => ?_) (fun c1 => ?_)
      · refine ⟨_, rfl, _, rfl, wd w0, pw, us, _, dw, rfl, .inr w7, d2.mono t7, Nat.le_trans (wd_deep _) (by decide), fun b2 hb2 => ⟨_, rfl, ?_⟩⟩
        rw [mem_wd] at hb2
        refine ite2 (fun c2 => ?_) (fun c2 => ?_)
        · have new1 := hb.mp c1
          have new2 := hb2.mp c2
          refine ⟨_, rfl, _, rfl, _, rfl, by show 2 ≤ sizeLine; decide, fun q hq => ?_⟩
          have qn := D7.new hq
          have s8 : Same H7 (upd H7 q (.lst [.ref pr, .ref pw])) := Same.upd hq
          have h8 : upd H7 q (.lst [.ref pr, .ref pw]) q = some (.lst [.ref pr, .ref pw]) := upd_same
          generalize upd H7 q (.lst [.ref pr, .ref pw]) = H8 at s8 h8 ⊢
          refine ⟨d, l, q, ns, _, rfl, D7.same s8, qn.1, h8, by simp, by simp, fun x H9 hx k9 D9 => ?_⟩
          have r9 := k9 _ _ prn.1 (s8 _ _ r7)
          have w9 := k9 _ _ pwn.1 (s8 _ _ w7)
          have K9 : Keep d H7 H9 := s8.keep.trans k9
          have t9 := D7.tups K9
          have h9 := t9 _ _ h7
          have kA := keepAll.trans K9
          have len3 : w0.length ≤ 3 := by omega
          simp only [List.mem_cons, List.not_mem_nil, or_false] at hx
          rcases hx with rfl | rfl
          · refine ⟨.inl ⟨rfl, _, SqL.of r9⟩, _, rfl, pr, rs, _, rfl, rfl, r9, ?_, ?_, D9.upd2 prn.1 prn.2, ⟨_, _, _, rfl⟩, R ++ [w0], W, _, us, upd_same, ?_, ?_, ?_, ?_, b2', ?_, ?_, ?_⟩
            · have := d1.length
              rw [List.length_map] at this
              exact small1000 (by omega)
            · intro b o nb e
              rw [upd_ne (ne_of_none e hpr)]; exact kA b o nb e
            · rw [upd_ne wr]; exact w9
            · have tp : Tups H9 (upd H9 pr (.lst (rs ++ [V.ref tq]))) := tups_upd fun xs e => by rw [r9] at e; cases e
              rw [List.map_append]
              exact ((d1.mono t7).mono t9 |>.mono tp).snoc (.of_word (tp _ _ h9))
            · have tp : Tups H9 (upd H9 pr (.lst (rs ++ [V.ref tq]))) := tups_upd fun xs e => by rw [r9] at e; cases e
              exact ((d2.mono t7).mono t9).mono tp
            · intro u hu
              rcases List.mem_append.mp hu with z | z
              · exact b1 u z
              · simp at z; subst z; exact wb
            · intro u hu
              rcases List.mem_append.mp hu with z | z
              · exact ds u z
              · simp at z; subst z; exact new2
            · intro u hu
              simp only [List.mem_append, List.mem_singleton] at hu
              rcases hu with (z | z) | z
              · exact l3 u (by simp [z])
              · subst z; exact len3
              · exact l3 u (by simp [z])
            · rw [List.length_append, List.length_singleton]; omega
          · refine ⟨.inl ⟨rfl, _, SqL.of w9⟩, _, rfl, pw, us, _, rfl, rfl, w9, ?_, ?_, D9.upd2 pwn.1 pwn.2, ⟨_, _, _, rfl⟩, R, W ++ [w0], rs, _, ?_, upd_same, ?_, ?_, b1, ?_, ?_, ?_, ?_⟩
            · have := d2.length
              rw [List.length_map] at this
              exact small1000 (by omega)
            · intro b o nb e
              rw [upd_ne (ne_of_none e hpw0)]; exact kA b o nb e
            · rw [upd_ne (Ne.symm wr)]; exact r9
            · have tp : Tups H9 (upd H9 pw (.lst (us ++ [V.ref tq]))) := tups_upd fun xs e => by rw [w9] at e; cases e
              exact ((d1.mono t7).mono t9).mono tp
            · have tp : Tups H9 (upd H9 pw (.lst (us ++ [V.ref tq]))) := tups_upd fun xs e => by rw [w9] at e; cases e
              rw [List.map_append]
              exact ((d2.mono t7).mono t9 |>.mono tp).snoc (.of_word (tp _ _ h9))
            · intro u hu
              rcases List.mem_append.mp hu with z | z
              · exact b2' u z
              · simp at z; subst z; exact wb
            · intro u hu z
              rcases List.mem_append.mp z with z | z
              · exact ds u hu z
              · simp at z; subst z; exact new1 hu
            · intro u hu
              simp only [List.mem_append, List.mem_singleton] at hu
              rcases hu with z | z | z
              · exact l3 u (by simp [z])
              · exact l3 u (by simp [z])
              · subst z; exact len3
            · rw [List.length_append, List.length_singleton]; omega
        · exact ⟨keepAll, D7, ⟨_, _, _, rfl⟩, R, W, rs, us, r7, w7, d1.mono t7, d2.mono t7, b1, b2', ds, l3, by omega⟩
      · exact ⟨keepAll, D7, ⟨_, _, _, rfl⟩, R, W, rs, us, r7, w7, d1.mono t7, d2.mono t7, b1, b2', ds, l3, by omega⟩
  · obtain ⟨K4, D4, ⟨g4, g5, g6, rfl⟩, R, W, rs, us, e1, e2, d1, d2, b1, b2, ds, l3, cnt⟩ := h
    refine ⟨_, rfl, pr, _, rfl, .inl ⟨SqL.of e1, fun tr htr => ⟨_, rfl, pw, _, rfl, .inl ⟨SqL.of (by rw [upd_ne (ne_of_none e2 htr)]; exact e2), fun tw htw => ⟨by show 2 ≤ sizeLine; decide, fun q hq => ?_⟩⟩⟩⟩⟩
    have s1 : Same H' (upd (upd (upd H' tr (.tup rs)) tw (.tup us)) q (.tup [.ref tr, .ref tw])) := ((Same.upd htr).trans (Same.upd htw)).trans (Same.upd hq)
    have tp := same_tp s1
    refine k _ _ R W (K4.trans (Same.keep s1)) (D4.same s1) (.tup upd_same (.cons (.tup ?_ (d1.mono tp)) (.cons (.tup ?_ (d2.mono tp)) .nil))) b1 b2 ds l3 (by omega)
    · have : upd (upd H' tr (.tup rs)) tw (.tup us) tr = some (.tup rs) := by rw [upd_ne (fun z => by rw [← z, upd_same] at htw; cases htw), upd_same]
      rw [upd_ne (ne_of_none this hq)]
      exact this
    · have : upd (upd H' tr (.tup rs)) tw (.tup us) tw = some (.tup us) := upd_same
      rw [upd_ne (ne_of_none this hq)]
      exact this
end
end Toy

set_option Elab.async false
set_option linter.all false
set_option maxRecDepth 100000
set_option maxHeartbeats 4000000
namespace Toy
open PySem L2
def isClash (k : Lk) (ws R W : List (List Nat)) (p : List Nat × List Nat) : Prop := p.1 ∈ R ∧ p.2 ∈ W ∧ p.1 ∈ ws ∧ p.2 ∈ ws ∧ rwN k p.1 = rwN k p.2
/-- the trees of all ways -/
inductive IsT (R W : List (List Nat)) (m : Nat) : List (List Nat) → List (List Nat) → Lk → Tr → Prop where
  | bad {rest ws : List (List Nat)} {k : Lk} {a b : List Nat} : isClash k ws R W (a, b) → IsT R W m rest ws k (.bad a b)
  | fits {ws : List (List Nat)} {k : Lk} : (∀ x, ¬ isClash k ws R W x) → IsT R W m [] ws k .fits
  | forced {w : List Nat} {rest ws : List (List Nat)} {k : Lk} {s : Nat} {t : Tr} : (∀ x, ¬ isClash k ws R W x) → k (rwN k w.dropLast) (lst w) = some s → IsT R W m rest (ws ++ [w]) (ext k w s) t → IsT R W m (w :: rest) ws k t
  | try_ {w : List Nat} {rest ws : List (List Nat)} {k : Lk} {ts : List Tr} : (∀ x, ¬ isClash k ws R W x) → k (rwN k w.dropLast) (lst w) = none → ts.length = min (usd k ws + 1) m → (∀ i t, ts[i]? = some t → IsT R W m rest (ws ++ [w]) (ext k w i) t) → IsT R W m (w :: rest) ws k (.try_ ts)
end Toy
namespace Toy
open PySem L2
/-! ### the plain law -/
mutual
def hasFit : Tr → Bool
  | .fits => true
  | .try_ ts => hasFits ts
  | .non => false
  | .bad1 _ => false
  | .bad _ _ => false
def hasFits : List Tr → Bool
  | [] => false
  | t :: r => hasFit t || hasFits r
end
theorem hasFits_iff : ∀ ts : List Tr, hasFits ts = true ↔ ∃ t ∈ ts, hasFit t = true
  | [] => by simp [hasFits]
  | t :: r => by rw [hasFits, Bool.or_eq_true, hasFits_iff r]; simp
theorem has_try (ts : List Tr) : hasFit (.try_ ts) = hasFits ts := by rw [hasFit]
/-- the trees that the law takes for wrong ones -/
inductive Wr : Tr → Tr → Prop
  | b1 {a b : List Nat} : Wr (.bad a b) (.try_ [.bad a b])
  | b2 {a b : List Nat} : Wr (.bad a b) (.bad b a)
  | b3 {a b : List Nat} : Wr (.bad a b) (.bad1 a)
  | b4 {a b : List Nat} : Wr (.bad a b) .non
  | b5 {a b : List Nat} : Wr (.bad a b) (.try_ [])
  | t1 {ts : List Tr} : Wr (.try_ ts) (.try_ ts.dropLast)
  | t2 {ts : List Tr} : Wr (.try_ ts) (.try_ (ts ++ ts.take 1))
  | t3 {ts : List Tr} {i : Nat} {t t' : Tr} : ts[i]? = some t → Wr t t' → Wr (.try_ ts) (.try_ (ts.take i ++ [t'] ++ ts.drop (i + 1)))
  | t4 {ts : List Tr} : Wr (.try_ ts) (.bad [] [])
  | t5 {ts : List Tr} : Wr (.try_ ts) .non
def smp (R W : List (List Nat)) : List (List Nat × Nat) := R.map (fun w => (w, 1)) ++ W.map fun w => (w, 0)
theorem smp_mem {R W : List (List Nat)} {x : List Nat × Nat} : x ∈ smp R W ↔ (x.1 ∈ R ∧ x.2 = 1) ∨ (x.1 ∈ W ∧ x.2 = 0) := by
  obtain ⟨w, l⟩ := x
  unfold smp
  simp only [List.mem_append, List.mem_map, Prod.mk.injEq]
  constructor
  · rintro (⟨a, h, rfl, rfl⟩ | ⟨a, h, rfl, rfl⟩)
    · exact .inl ⟨h, rfl⟩
    · exact .inr ⟨h, rfl⟩
  · rintro (⟨h, e⟩ | ⟨h, e⟩)
    · exact .inl ⟨w, h, rfl, e.symm⟩
    · exact .inr ⟨w, h, rfl, e.symm⟩
theorem fold_max : ∀ (l : List Nat) (a : Nat), a ≤ l.foldl max a ∧ ∀ x ∈ l, x ≤ l.foldl max a
  | [], a => ⟨Nat.le_refl _, fun x h => nomatch h⟩
  | y :: l, a => by
    obtain ⟨h1, h2⟩ := fold_max l (max a y)
    refine ⟨Nat.le_trans (Nat.le_max_left _ _) h1, fun x hx => ?_⟩
    rcases List.mem_cons.mp hx with rfl | hx
    · exact Nat.le_trans (Nat.le_max_right _ _) h1
    · exact h2 x hx
theorem usd_mem {k : Lk} {ws : List (List Nat)} {w : List Nat} (h : w ∈ ws) : rwN k w < usd k ws :=
  (fold_max (ws.map fun w => rwN k w + 1) 0).2 (rwN k w + 1) (List.mem_map.mpr ⟨w, h, rfl⟩)
structure Iv (R W : List (List Nat)) (full : List (List Nat)) (m : Nat) (ws rest : List (List Nat)) (k : Lk) : Prop where
  ef : full = ws ++ rest
  pre : Pre full
  nil : [] ∈ ws
  all : ∀ w ∈ ws, (run k 0 w).isSome = true
  lt : ∀ r c s, k r c = some s → s < usd k ws ∧ r < usd k ws
  um : usd k ws ≤ m
  bin : Bin full
  beg : ∀ w, w ∈ full ↔ Beg (R ++ W) w
theorem Iv.ne {R W full : List (List Nat)} {m : Nat} {ws rest : List (List Nat)} {w : List Nat} {k : Lk} (h : Iv R W full m ws (w :: rest) k) : w ≠ [] := fun z => by
  have := h.pre.fresh h.ef
  rw [z] at this
  exact this h.nil
theorem Iv.forced {R W full : List (List Nat)} {m : Nat} {ws rest : List (List Nat)} {w : List Nat} {k : Lk} (h : Iv R W full m ws (w :: rest) k) : forcedN k w = k (rwN k w.dropLast) (lst w) := by
  unfold forcedN
  rw [if_neg h.ne]
theorem Iv.ext {R W full : List (List Nat)} {m : Nat} {ws rest : List (List Nat)} {w : List Nat} {k : Lk} (h : Iv R W full m ws (w :: rest) k) (s : Nat) : ext k w s = k.put (rwN k w.dropLast) (lst w) s := by
  unfold Toy.ext
  rw [if_neg h.ne]
theorem Iv.up {R W full : List (List Nat)} {m : Nat} {ws rest : List (List Nat)} {w : List Nat} {k : Lk} (h : Iv R W full m ws (w :: rest) k) : 0 < usd k ws := by
  have := usd_mem (k := k) h.nil
  omega
theorem Iv.row {R W full : List (List Nat)} {m : Nat} {ws rest : List (List Nat)} {w : List Nat} {k : Lk} (h : Iv R W full m ws (w :: rest) k) : rwN k w.dropLast < usd k ws :=
  usd_mem ((h.pre.pre _ _ _ h.ef).resolve_left h.ne)
theorem Iv.lst {R W full : List (List Nat)} {m : Nat} {ws rest : List (List Nat)} {w : List Nat} {k : Lk} (h : Iv R W full m ws (w :: rest) k) : lst w < 2 := by
  refine h.bin w (by rw [h.ef]; simp) _ ?_
  have := word_split h.ne
  rw [this]
  simp [Toy.lst]
theorem Iv.step {R W full : List (List Nat)} {m : Nat} {ws rest : List (List Nat)} {w : List Nat} {k : Lk} {s : Nat} (h : Iv R W full m ws (w :: rest) k) (hs : s < m) (hk : k (rwN k w.dropLast) (Toy.lst w) = none ∨ k (rwN k w.dropLast) (Toy.lst w) = some s) :
    Step k (Toy.ext k w s) ws w s ∧ Iv R W full m (ws ++ [w]) rest (Toy.ext k w s) := by
  have st : Step k (Toy.ext k w s) ws w s := h.pre.step h.ef (by rw [h.forced]; exact hk)
  have rn := st.run h.all
  have rs : rwN (Toy.ext k w s) w = s := by unfold rwN; rw [rn]; rfl
  have us := usd_snoc (w := w) st.le h.all
  rw [rs] at us
  refine ⟨st, by rw [h.ef]; simp, h.pre, by simp [h.nil], fun u hu => ?_, fun r c t e => ?_, by rw [us]; have := h.um; omega, h.bin, h.beg⟩
  · rcases List.mem_append.mp hu with z | z
    · obtain ⟨x, hx⟩ := Option.isSome_iff_exists.mp (h.all u z)
      rw [run_le st.le _ _ _ hx]; rfl
    · simp at z; subst z; rw [rn]; rfl
  · rw [us]
    rw [h.ext s] at e
    unfold Lk.put at e
    by_cases q : r = rwN k w.dropLast ∧ c = Toy.lst w
    · rw [if_pos q] at e
      have := Option.some.inj e
      have := h.row
      have := q.1
      omega
    · rw [if_neg q] at e
      have := h.lt r c t e
      omega
theorem clash_new {R W : List (List Nat)} {ws : List (List Nat)} {w : List Nat} {k k' : Lk} {s : Nat} (no : ∀ x, ¬ isClash k ws R W x) (all : ∀ u ∈ ws, (run k 0 u).isSome = true) (st : Step k k' ws w s) :
    (clash k' (ws ++ [w]) R W s).isSome = true ↔ ∃ x, isClash k' (ws ++ [w]) R W x := by
  have rs : rwN k' w = s := by unfold rwN; rw [st.run all]; rfl
  have fs : ∀ S : List (List Nat), (fstW k' (ws ++ [w]) S s).isSome = true ↔ ∃ a, a ∈ S ∧ a ∈ ws ++ [w] ∧ rwN k' a = s := fun S => by
    unfold fstW
    rw [List.find?_isSome]
    constructor
    · rintro ⟨a, h1, h2⟩
      rw [Bool.and_eq_true, decide_eq_true_eq, decide_eq_true_eq] at h2
      exact ⟨a, h2.1, h1, h2.2⟩
    · rintro ⟨a, h1, h2, h3⟩
      refine ⟨a, h2, ?_⟩
      rw [Bool.and_eq_true, decide_eq_true_eq, decide_eq_true_eq]
      exact ⟨h1, h3⟩
  have cs : (clash k' (ws ++ [w]) R W s).isSome = true ↔ (fstW k' (ws ++ [w]) R s).isSome = true ∧ (fstW k' (ws ++ [w]) W s).isSome = true := by
    unfold clash
    cases fstW k' (ws ++ [w]) R s <;> cases fstW k' (ws ++ [w]) W s <;> simp
  rw [cs, fs, fs]
  constructor
  · rintro ⟨⟨a, a1, a2, a3⟩, b, b1, b2, b3⟩
    exact ⟨(a, b), a1, b1, a2, b2, by show rwN k' a = rwN k' b; rw [a3, b3]⟩
  · rintro ⟨⟨a, b⟩, h1, h2, h3, h4, h5⟩
    have h1 : a ∈ R := h1
    have h2 : b ∈ W := h2
    have h3 : a ∈ ws ++ [w] := h3
    have h4 : b ∈ ws ++ [w] := h4
    have h5 : rwN k' a = rwN k' b := h5
    have es : rwN k' a = s := by
      rcases List.mem_append.mp h3 with z | z
      · rcases List.mem_append.mp h4 with y | y
        · refine absurd ?_ (no (a, b))
          refine ⟨h1, h2, z, y, ?_⟩
          show rwN k a = rwN k b
          rw [← rw_le st.le (all a z), ← rw_le st.le (all b y)]
          exact h5
        · rw [h5, List.mem_singleton.mp y]; exact rs
      · rw [List.mem_singleton.mp z]; exact rs
    exact ⟨⟨a, h1, h3, es⟩, b, h2, h4, by rw [← h5]; exact es⟩
/-- what is judged of a tree behind the words ws -/
def Nd (R W : List (List Nat)) (m : Nat) (rest ws : List (List Nat)) (k : Lk) (t : Tr) (b : Bool) : Prop :=
  ((∃ x, isClash k ws R W x) ∧ isBad k ws R W t = b) ∨ ((∀ x, ¬ isClash k ws R W x) ∧ acc R W m rest ws k t = b)
theorem nd_if {R W : List (List Nat)} {m : Nat} {ws rest : List (List Nat)} {w : List Nat} {k k' : Lk} {s : Nat} {t : Tr} {b : Bool} (no : ∀ x, ¬ isClash k ws R W x) (all : ∀ u ∈ ws, (run k 0 u).isSome = true) (st : Step k k' ws w s)
    (h : Nd R W m rest (ws ++ [w]) k' t b) : (if (clash k' (ws ++ [w]) R W s).isSome = true then isBad k' (ws ++ [w]) R W t else acc R W m rest (ws ++ [w]) k' t) = b := by
  have c := clash_new no all st
  rcases h with ⟨h1, h2⟩ | ⟨h1, h2⟩
  · rw [if_pos (c.mpr h1)]; exact h2
  · rw [if_neg (fun z => let ⟨x, hx⟩ := c.mp z; h1 x hx)]; exact h2
theorem clash_nofit {R W full : List (List Nat)} {m : Nat} {ws rest : List (List Nat)} {k : Lk} (h : Iv R W full m ws rest k) {x : List Nat × List Nat} (hx : isClash k ws R W x) : ¬ Fits m (smp R W) k := by
  rintro ⟨δ, f1, f2, f3⟩
  obtain ⟨a, b⟩ := x
  obtain ⟨h1, h2, h3, h4, h5⟩ := hx
  obtain ⟨u, hu⟩ := Option.isSome_iff_exists.mp (h.all a h3)
  obtain ⟨v, hv⟩ := Option.isSome_iff_exists.mp (h.all b h4)
  have : u = v := by
    have h5 : rwN k a = rwN k b := h5
    unfold rwN at h5
    rw [hu, hv] at h5
    exact h5
  subst this
  have : (1 : Nat) = 0 := f3 (a, 1) (smp_mem.mpr (.inl ⟨h1, rfl⟩)) (b, 0) (smp_mem.mpr (.inr ⟨h2, rfl⟩)) (by rw [runT_of f1 _ _ _ hu, runT_of f1 _ _ _ hv])
  exact absurd this (by decide)
/-- two rows changed for each other -/
def sw (o u x : Nat) : Nat := if x = o then u else if x = u then o else x
theorem sw_sw (o u x : Nat) : sw o u (sw o u x) = x := by
  unfold sw
  by_cases h1 : x = o
  · rw [if_pos h1]
    by_cases h2 : u = o
    · rw [if_pos h2]; omega
    · rw [if_neg h2, if_pos rfl]; omega
  · rw [if_neg h1]
    by_cases h2 : x = u
    · rw [if_pos h2, if_pos rfl]; omega
    · rw [if_neg h2, if_neg h1, if_neg h2]
theorem sw_lt {o u x m : Nat} (ho : o < m) (hu : u < m) (hx : x < m) : sw o u x < m := by unfold sw; split <;> (try split) <;> omega
theorem sw_id {o u x : Nat} (h1 : x < u) (h2 : u ≤ o) : sw o u x = x := by
  unfold sw
  rw [if_neg (by omega), if_neg (by omega)]
theorem runT_sw {δ : Nat → Nat → Nat} {o u : Nat} : ∀ (w : List Nat) (r : Nat), runT (fun r c => sw o u (δ (sw o u r) c)) (sw o u r) w = sw o u (runT δ r w)
  | [], r => rfl
  | c :: w, r => by
    rw [runT, runT]
    show runT _ (sw o u (δ (sw o u (sw o u r)) c)) w = _
    rw [sw_sw]
    exact runT_sw w (δ r c)
theorem fits_sw {m : Nat} {ss : List (List Nat × Nat)} {k : Lk} {r c o u : Nat} (lt : ∀ r c s, k r c = some s → s < u ∧ r < u) (hr : r < u) (uo : u ≤ o) (om : o < m) (h : Fits m ss (k.put r c o)) : Fits m ss (k.put r c u) := by
  obtain ⟨δ, f1, f2, f3⟩ := h
  have um : u < m := by omega
  refine ⟨fun r c => sw o u (δ (sw o u r) c), fun r' c' s e => ?_, fun r' c' hr' hc' => sw_lt om um (f2 _ _ (sw_lt om um hr') hc'), fun x hx y hy e => f3 x hx y hy ?_⟩
  · unfold Lk.put at e
    by_cases q : r' = r ∧ c' = c
    · rw [if_pos q] at e
      obtain ⟨rfl, rfl⟩ := q
      show sw o u (δ (sw o u r') c') = s
      rw [sw_id hr uo, f1 r' c' o (by unfold Lk.put; rw [if_pos ⟨rfl, rfl⟩])]
      unfold sw
      rw [if_pos rfl]
      exact Option.some.inj e
    · rw [if_neg q] at e
      obtain ⟨l1, l2⟩ := lt _ _ _ e
      show sw o u (δ (sw o u r') c') = s
      rw [sw_id l2 uo, f1 r' c' s (by unfold Lk.put; rw [if_neg q]; exact e), sw_id l1 uo]
  · have z : sw o u 0 = 0 := sw_id (by omega) uo
    have g : ∀ w, runT (fun r c => sw o u (δ (sw o u r) c)) 0 w = sw o u (runT δ 0 w) := fun w => by
      have := runT_sw (δ := δ) (o := o) (u := u) w 0
      rwa [z] at this
    rw [g, g] at e
    have := congrArg (sw o u) e
    rwa [sw_sw, sw_sw] at this
theorem fits_try {R W full : List (List Nat)} {m : Nat} {ws rest : List (List Nat)} {w : List Nat} {k : Lk} (h : Iv R W full m ws (w :: rest) k) (hk : k (rwN k w.dropLast) (lst w) = none) :
    Fits m (smp R W) k ↔ ∃ i, i < min (usd k ws + 1) m ∧ Fits m (smp R W) (ext k w i) := by
  constructor
  · intro f
    have := h.um
    have := h.row
    obtain ⟨o, om, fo⟩ := f.up (s := rwN k w.dropLast) (c := lst w) (by omega) h.lst
    by_cases c : o < usd k ws + 1
    · exact ⟨o, by omega, by rw [h.ext]; exact fo⟩
    · exact ⟨usd k ws, by omega, by rw [h.ext]; exact fits_sw h.lt h.row (by omega) om fo⟩
  · rintro ⟨i, hi, f⟩
    rw [h.ext] at f
    exact f.down (put_le (.inl hk))
theorem fits_forced {R W full : List (List Nat)} {m : Nat} {ws rest : List (List Nat)} {w : List Nat} {k : Lk} {s : Nat} (h : Iv R W full m ws (w :: rest) k) (hk : k (rwN k w.dropLast) (lst w) = some s) : ext k w s = k := by
  rw [h.ext]
  funext r c
  unfold Lk.put
  by_cases q : r = rwN k w.dropLast ∧ c = lst w
  · rw [if_pos q, q.1, q.2, hk]
  · rw [if_neg q]
/-- where no samples clash and all words have been given, a full watcher fits -/
theorem fits_end {R W full : List (List Nat)} {m : Nat} {ws : List (List Nat)} {k : Lk} (h : Iv R W full m ws [] k) (no : ∀ x, ¬ isClash k ws R W x) : Fits m (smp R W) k := by
  have ew : ws = full := by rw [h.ef, List.append_nil]
  have inw : ∀ x ∈ smp R W, x.1 ∈ ws := fun x hx => by
    rw [ew]
    refine (h.beg _).mpr (.inr ⟨x.1, ?_, List.prefix_refl _⟩)
    rcases smp_mem.mp hx with z | z
    · exact List.mem_append_left _ z.1
    · exact List.mem_append_right _ z.1
  have u0 : 0 < usd k ws := by have := usd_mem (k := k) h.nil; omega
  refine fits_all (by have := h.um; omega) (fun r c s e => by have := (h.lt r c s e).1; have := h.um; omega) (fun x hx => h.all _ (inw x hx)) (fun x hx y hy e => ?_)
  have er : rwN k x.1 = rwN k y.1 := by unfold rwN; rw [e]
  rcases smp_mem.mp hx with ⟨a1, a2⟩ | ⟨a1, a2⟩ <;> rcases smp_mem.mp hy with ⟨b1, b2⟩ | ⟨b1, b2⟩
  · rw [a2, b2]
  · exact absurd ⟨a1, b1, inw x hx, inw y hy, er⟩ (no (x.1, y.1))
  · exact absurd ⟨b1, a1, inw y hy, inw x hx, er.symm⟩ (no (y.1, x.1))
  · rw [a2, b2]
theorem min_lt {k : Lk} {ws : List (List Nat)} {m i : Nat} (h : i < min (usd k ws + 1) m) : i < m := by omega
/-- the law's tree tells whether a watcher fits -/
theorem tree_fits {R W full : List (List Nat)} {m : Nat} {rest ws : List (List Nat)} {k : Lk} {t : Tr} (h : IsT R W m rest ws k t) : Iv R W full m ws rest k → (hasFit t = true ↔ Fits m (smp R W) k) := by
  induction h with
  | bad c => exact fun v => ⟨fun z => by simp [hasFit] at z, fun z => absurd z (clash_nofit v c)⟩
  | fits no => exact fun v => ⟨fun _ => fits_end v no, fun _ => by simp [hasFit]⟩
  | forced no hk _ ih =>
    intro v
    have lt := (v.lt _ _ _ hk).1
    have := (v.step (by have := v.um; omega) (.inr hk)).2
    rw [ih this, fits_forced v hk]
  | @try_ w rest ws k ts no hk hl _ ih =>
    intro v
    rw [has_try, hasFits_iff, fits_try v hk]
    constructor
    · rintro ⟨t, ht, e⟩
      obtain ⟨i, hi, rfl⟩ := List.getElem_of_mem ht
      have hi2 : i < min (usd k ws + 1) m := by omega
      exact ⟨i, hi2, (ih i _ (List.getElem?_eq_getElem hi) (v.step (min_lt hi2) (.inl hk)).2).mp e⟩
    · rintro ⟨i, hi, f⟩
      have hi2 : i < ts.length := by omega
      exact ⟨ts[i], List.getElem_mem hi2, (ih i _ (List.getElem?_eq_getElem hi2) (v.step (min_lt hi) (.inl hk)).2).mpr f⟩
/-- where none fits, the law's tree is taken -/
theorem tree_taken {R W full : List (List Nat)} {m : Nat} {rest ws : List (List Nat)} {k : Lk} {t : Tr} (h : IsT R W m rest ws k t) : Iv R W full m ws rest k → hasFit t = false → Nd R W m rest ws k t true := by
  induction h with
  | bad c => exact fun v _ => .inl ⟨⟨_, c⟩, by unfold isBad; exact decide_eq_true c⟩
  | fits no => exact fun v z => by simp [hasFit] at z
  | @forced w rest ws k s t no hk _ ih =>
    intro v z
    have lt := (v.lt _ _ _ hk).1
    obtain ⟨st, v2⟩ := v.step (by have := v.um; omega) (.inr hk)
    refine .inr ⟨no, ?_⟩
    rw [acc_some (s := s) (by rw [v.forced]; exact hk)]
    exact nd_if no v.all st (ih v2 z)
  | @try_ w rest ws k ts no hk hl _ ih =>
    intro v z
    rw [has_try] at z
    refine .inr ⟨no, ?_⟩
    rw [acc_try (by rw [v.forced]; exact hk), decide_eq_true hl, Bool.true_and, List.all_eq_true]
    rintro ⟨t, i⟩ hp
    rw [List.mem_zipIdx_iff_getElem?] at hp
    have hp : ts[i]? = some t := hp
    obtain ⟨hi, e⟩ := List.getElem?_eq_some_iff.mp hp
    have hi2 : i < min (usd k ws + 1) m := by omega
    obtain ⟨st, v2⟩ := v.step (min_lt hi2) (.inl hk)
    refine nd_if no v.all st (ih i t hp v2 ?_)
    cases c : hasFit t with
    | false => rfl
    | true => rw [(hasFits_iff ts).mpr ⟨t, List.mem_of_getElem? hp, c⟩] at z; cases z
/-- where a watcher fits, no tree is taken -/
theorem fits_none {R W full : List (List Nat)} {m : Nat} : ∀ {rest ws : List (List Nat)} {k : Lk} {t : Tr}, Iv R W full m ws rest k → Fits m (smp R W) k → Nd R W m rest ws k t false
  | [], ws, k, t, v, f => .inr ⟨fun x hx => clash_nofit v hx f, by rw [acc]⟩
  | w :: rest, ws, k, t, v, f => by
    have no : ∀ x, ¬ isClash k ws R W x := fun x hx => clash_nofit v hx f
    refine .inr ⟨no, ?_⟩
    cases hk : k (rwN k w.dropLast) (lst w) with
    | some s =>
      have lt := (v.lt _ _ _ hk).1
      obtain ⟨st, v2⟩ := v.step (s := s) (by have := v.um; omega) (.inr hk)
      rw [acc_some (s := s) (by rw [v.forced]; exact hk)]
      exact nd_if no v.all st (fits_none v2 (by rw [fits_forced v hk]; exact f))
    | none =>
      have fo : forcedN k w = none := by rw [v.forced]; exact hk
      cases ht : trys t with
      | none => exact acc_no fo ht
      | some ts =>
        have et : t = .try_ ts := by
          cases t <;> simp [trys] at ht
          rw [ht]
        subst et
        rw [acc_try fo]
        by_cases c : ts.length = min (usd k ws + 1) m
        · rw [decide_eq_true c, Bool.true_and, List.all_eq_false]
          obtain ⟨i, hi, fi⟩ := (fits_try v hk).mp f
          have hi2 : i < ts.length := by omega
          refine ⟨(ts[i], i), ?_, ?_⟩
          · rw [List.mem_zipIdx_iff_getElem?]
            exact List.getElem?_eq_getElem hi2
          · obtain ⟨st, v2⟩ := v.step (min_lt hi) (.inl hk)
            rw [show (if (clash (ext k w i) (ws ++ [w]) R W i).isSome = true then isBad (ext k w i) (ws ++ [w]) R W ts[i] else acc R W m rest (ws ++ [w]) (ext k w i) ts[i]) = false from nd_if no v.all st (fits_none v2 fi)]
            decide
        · rw [decide_eq_false c, Bool.false_and]
theorem acc_non {R W : List (List Nat)} {m : Nat} : ∀ {rest ws : List (List Nat)} {k : Lk}, acc R W m rest ws k .non = false
  | [], ws, k => by rw [acc]
  | w :: rest, ws, k => by
    cases h : forcedN k w with
    | none => exact acc_no h rfl
    | some s =>
      rw [acc_some h]
      split
      · rfl
      · exact acc_non
/-- the law's wrong trees are refused -/
theorem tree_wrong {R W full : List (List Nat)} {m : Nat} (dj : ∀ w, w ∈ R → w ∉ W) (m0 : 0 < m) {rest ws : List (List Nat)} {k : Lk} {t : Tr} (h : IsT R W m rest ws k t) : Iv R W full m ws rest k → ∀ t', Wr t t' → Nd R W m rest ws k t' false := by
  induction h with
  | bad c =>
    intro v t' w
    refine .inl ⟨⟨_, c⟩, ?_⟩
    cases w with
    | b1 => rfl
    | b2 => exact decide_eq_false fun z => dj _ z.1 c.2.1
    | b3 => rfl
    | b4 => rfl
    | b5 => rfl
  | fits no => intro v t' w; cases w
  | @forced w rest ws k s t no hk _ ih =>
    intro v t' wr
    have lt := (v.lt _ _ _ hk).1
    obtain ⟨st, v2⟩ := v.step (by have := v.um; omega) (.inr hk)
    refine .inr ⟨no, ?_⟩
    rw [acc_some (s := s) (by rw [v.forced]; exact hk)]
    exact nd_if no v.all st (ih v2 t' wr)
  | @try_ w rest ws k ts no hk hl _ ih =>
    intro v t' wr
    have fo : forcedN k w = none := by rw [v.forced]; exact hk
    refine .inr ⟨no, ?_⟩
    cases wr with
    | t1 =>
      rw [acc_try fo, decide_eq_false (by rw [List.length_dropLast]; omega), Bool.false_and]
    | t2 =>
      rw [acc_try fo, decide_eq_false (by rw [List.length_append, List.length_take]; omega), Bool.false_and]
    | @t3 _ i t t' hi wr =>
      have hi1 := (List.getElem?_eq_some_iff.mp hi).1
      have hi2 : i < min (usd k ws + 1) m := by omega
      obtain ⟨st, v2⟩ := v.step (min_lt hi2) (.inl hk)
      rw [acc_try fo, Bool.and_eq_false_iff]
      refine .inr (List.all_eq_false.mpr ⟨(t', i), ?_, ?_⟩)
      · rw [List.mem_zipIdx_iff_getElem?]
        show (ts.take i ++ [t'] ++ ts.drop (i + 1))[i]? = some t'
        rw [List.append_assoc, List.getElem?_append_right (by rw [List.length_take]; omega)]
        rw [List.length_take, show i - min i ts.length = 0 by omega]
        rfl
      · rw [show (if (clash (ext k w i) (ws ++ [w]) R W i).isSome = true then isBad (ext k w i) (ws ++ [w]) R W t' else acc R W m rest (ws ++ [w]) (ext k w i) t') = false from nd_if no v.all st (ih i t hi v2 t' wr)]
        decide
    | t4 => exact acc_no fo rfl
    | t5 => exact acc_no fo rfl
/-! the beginning: the empty word has row 0 -/
theorem root_iv {R W full : List (List Nat)} {m : Nat} (pf : Pre full) (bi : Bin full) (beg : ∀ w, w ∈ full ↔ Beg (R ++ W) w) (m0 : 0 < m) : ∃ rest, full = [] :: rest ∧ Iv R W full m [[]] rest k0 := by
  have hm : [] ∈ full := (beg []).mpr (.inl rfl)
  cases full with
  | nil => cases hm
  | cons w rest =>
    have : w = [] := (pf.pre [] w rest rfl).resolve_right fun z => nomatch z
    subst this
    refine ⟨rest, rfl, rfl, pf, by simp, fun w hw => ?_, fun r c s e => (nomatch e), ?_, bi, beg⟩
    · simp at hw; subst hw; rfl
    · show usd k0 [[]] ≤ m
      have : usd k0 [[]] = 1 := rfl
      omega
theorem root_acc {R W : List (List Nat)} {m : Nat} {rest : List (List Nat)} {t : Tr} {b : Bool} (h : Nd R W m rest [[]] k0 t b) : acc R W m ([] :: rest) [] k0 t = b := by
  rw [acc_some (s := 0) rfl]
  refine nd_if (k := k0) (ws := []) (fun x hx => nomatch hx.2.2.1) (fun u hu => nomatch hu) ⟨fun z => (nomatch z), fun _ => ⟨rfl, rfl⟩, fun z => absurd rfl z⟩ ?_
  exact h
/-- heights -/
def Ht : Nat → Tr → Prop
  | 0, _ => False
  | n + 1, .try_ ts => 0 < ts.length ∧ ts.length ≤ 3 ∧ ∀ t ∈ ts, Ht n t
  | _ + 1, .fits => True
  | _ + 1, .bad _ _ => True
  | _ + 1, .bad1 _ => False
  | _ + 1, .non => False
theorem Ht.up : ∀ {n : Nat} {t : Tr}, Ht n t → Ht (n + 1) t
  | n + 1, .try_ ts, h => ⟨h.1, h.2.1, fun t m => (h.2.2 t m).up⟩
  | _ + 1, .fits, _ => True.intro
  | _ + 1, .bad _ _, _ => True.intro
theorem Ht.mono {n m : Nat} {t : Tr} (h : Ht n t) (l : n ≤ m) : Ht m t := by
  induction l with
  | refl => exact h
  | step _ ih => exact ih.up
theorem IsT.ht {R W : List (List Nat)} {m : Nat} (m0 : 0 < m) (m3 : m ≤ 3) {rest ws : List (List Nat)} {k : Lk} {t : Tr} (h : IsT R W m rest ws k t) : Ht (rest.length + 1) t := by
  induction h with
  | bad c => exact True.intro
  | fits no => exact True.intro
  | forced no hk _ ih => exact ih.up
  | try_ no hk hl _ ih =>
    refine ⟨by omega, by omega, fun t m => ?_⟩
    obtain ⟨i, hi, rfl⟩ := List.getElem_of_mem m
    exact ih i _ (List.getElem?_eq_getElem hi)
end Toy

set_option Elab.async false
set_option linter.all false
set_option maxRecDepth 100000
set_option maxHeartbeats 4000000
namespace Toy
open PySem L2
/-! ### the search as a function -/
inductive Rs where
  | found (k : Lk) | tree (t : Tr)
def firstF (f : Nat → Rs) : List Nat → List Tr → Rs
  | [], ts => .tree (.try_ ts)
  | i :: l, ts => match f i with
    | .found k => .found k
    | .tree t => firstF f l (ts ++ [t])
def gvF (go : List (List Nat) → Lk → Rs) (R W ws : List (List Nat)) (w : List Nat) (k : Lk) (s : Nat) : Rs := match clash (ext k w s) (ws ++ [w]) R W s with
  | some p => .tree (.bad p.1 p.2)
  | none => go (ws ++ [w]) (ext k w s)
def goF (R W : List (List Nat)) (m : Nat) : List (List Nat) → List (List Nat) → Lk → Rs
  | [], _, k => .found k
  | w :: rest, ws, k => match forcedN k w with
    | some s => gvF (goF R W m rest) R W ws w k s
    | none => firstF (gvF (goF R W m rest) R W ws w k) (List.range (min (usd k ws + 1) m)) []
theorem goF_some {R W : List (List Nat)} {m : Nat} {w : List Nat} {rest ws : List (List Nat)} {k : Lk} {s : Nat} (h : forcedN k w = some s) : goF R W m (w :: rest) ws k = gvF (goF R W m rest) R W ws w k s := by rw [goF, h]
theorem goF_none {R W : List (List Nat)} {m : Nat} {w : List Nat} {rest ws : List (List Nat)} {k : Lk} (h : forcedN k w = none) : goF R W m (w :: rest) ws k = firstF (gvF (goF R W m rest) R W ws w k) (List.range (min (usd k ws + 1) m)) [] := by rw [goF, h]
theorem firstF_tree {f : Nat → Rs} : ∀ {l : List Nat} {ts : List Tr} {t : Tr}, firstF f l ts = .tree t → ∃ us, us.length = l.length ∧ t = .try_ (ts ++ us) ∧ ∀ (i : Nat) (x : Nat) (u : Tr), l[i]? = some x → us[i]? = some u → f x = .tree u
  | [], ts, t, h => ⟨[], rfl, by rw [firstF] at h; injection h with h; rw [List.append_nil]; exact h.symm, fun i x u e => by simp at e⟩
  | y :: l, ts, t, h => by
    rw [firstF] at h
    cases e : f y with
    | found k => rw [e] at h; cases h
    | tree t0 =>
      rw [e] at h
      obtain ⟨us, h1, h2, h3⟩ := firstF_tree h
      refine ⟨t0 :: us, by rw [List.length_cons, List.length_cons, h1], by rw [h2]; simp, fun i x u ex eu => ?_⟩
      cases i with
      | zero => simp at ex eu; subst ex; subst eu; exact e
      | succ i => exact h3 i x u (by simpa using ex) (by simpa using eu)
theorem firstF_found {f : Nat → Rs} : ∀ {l : List Nat} {ts : List Tr} {k : Lk}, firstF f l ts = .found k → ∃ x ∈ l, f x = .found k
  | [], ts, k, h => by rw [firstF] at h; cases h
  | y :: l, ts, k, h => by
    rw [firstF] at h
    cases e : f y with
    | found k0 => rw [e] at h; injection h with h; subst h; exact ⟨y, List.mem_cons_self, e⟩
    | tree t0 =>
      rw [e] at h
      obtain ⟨x, hx, ex⟩ := firstF_found h
      exact ⟨x, List.mem_cons_of_mem _ hx, ex⟩
theorem clash_is {k : Lk} {ws R W : List (List Nat)} {s : Nat} {p : List Nat × List Nat} (h : clash k ws R W s = some p) : isClash k ws R W p := by
  unfold clash at h
  have fs : ∀ {S : List (List Nat)} {a : List Nat}, fstW k ws S s = some a → a ∈ S ∧ a ∈ ws ∧ rwN k a = s := fun {S a} e => by
    unfold fstW at e
    have h1 := List.find?_some e
    have h2 := List.mem_of_find?_eq_some e
    rw [Bool.and_eq_true, decide_eq_true_eq, decide_eq_true_eq] at h1
    exact ⟨h1.1, h2, h1.2⟩
  cases e1 : fstW k ws R s with
  | none => rw [e1] at h; cases h
  | some a =>
    cases e2 : fstW k ws W s with
    | none => rw [e1, e2] at h; cases h
    | some b =>
      rw [e1, e2] at h
      obtain rfl := Option.some.inj h
      obtain ⟨a1, a2, a3⟩ := fs e1
      obtain ⟨b1, b2, b3⟩ := fs e2
      exact ⟨a1, b1, a2, b2, by rw [a3, b3]⟩
/-- what a result of the search means -/
def RsOk (R W full : List (List Nat)) (m : Nat) (rest ws : List (List Nat)) (k : Lk) : Rs → Prop
  | .tree t => IsT R W m rest ws k t ∧ hasFit t = false
  | .found k' => k.le k' ∧ Iv R W full m full [] k' ∧ ∀ x, ¬ isClash k' full R W x
theorem le_trans {k k' k'' : Lk} (a : k.le k') (b : k'.le k'') : k.le k'' := fun r c s e => b r c s (a r c s e)
theorem gv_ok {R W full : List (List Nat)} {m : Nat} {rest ws : List (List Nat)} {w : List Nat} {k : Lk} {s : Nat} (ih : ∀ {ws : List (List Nat)} {k : Lk}, Iv R W full m ws rest k → (∀ x, ¬ isClash k ws R W x) → RsOk R W full m rest ws k (goF R W m rest ws k))
    (v : Iv R W full m ws (w :: rest) k) (no : ∀ x, ¬ isClash k ws R W x) (hs : s < m) (hk : k (rwN k w.dropLast) (lst w) = none ∨ k (rwN k w.dropLast) (lst w) = some s) : RsOk R W full m rest (ws ++ [w]) (ext k w s) (gvF (goF R W m rest) R W ws w k s) := by
  obtain ⟨st, v2⟩ := v.step hs hk
  have cn := clash_new no v.all st
  unfold gvF
  cases e : clash (ext k w s) (ws ++ [w]) R W s with
  | some p => exact ⟨.bad (clash_is e), by simp [hasFit]⟩
  | none => exact ih v2 fun x hx => by have := cn.mpr ⟨x, hx⟩; rw [e] at this; cases this
theorem go_ok {R W full : List (List Nat)} {m : Nat} : ∀ {rest ws : List (List Nat)} {k : Lk}, Iv R W full m ws rest k → (∀ x, ¬ isClash k ws R W x) → RsOk R W full m rest ws k (goF R W m rest ws k)
  | [], ws, k, v, no => by
    have ew : full = ws := by rw [v.ef, List.append_nil]
    rw [goF]
    subst ew
    exact ⟨fun _ _ _ e => e, ⟨by simp, v.pre, v.nil, v.all, v.lt, v.um, v.bin, v.beg⟩, no⟩
  | w :: rest, ws, k, v, no => by
    cases hk : k (rwN k w.dropLast) (lst w) with
    | some s =>
      have lt := (v.lt _ _ _ hk).1
      have sm : s < m := by have := v.um; omega
      rw [goF_some (s := s) (by rw [v.forced]; exact hk)]
      have g := gv_ok (fun {ws k} => go_ok) v no sm (.inr hk)
      cases e : gvF (goF R W m rest) R W ws w k s with
      | tree t => rw [e] at g; exact ⟨.forced no hk g.1, g.2⟩
      | found k' => rw [e] at g; exact ⟨le_trans (v.step sm (.inr hk)).1.le g.1, g.2⟩
    | none =>
      rw [goF_none (by rw [v.forced]; exact hk)]
      have g : ∀ i, i < min (usd k ws + 1) m → RsOk R W full m rest (ws ++ [w]) (ext k w i) (gvF (goF R W m rest) R W ws w k i) := fun i hi => gv_ok (fun {ws k} => go_ok) v no (min_lt hi) (.inl hk)
      cases e : firstF (gvF (goF R W m rest) R W ws w k) (List.range (min (usd k ws + 1) m)) [] with
      | tree t =>
        obtain ⟨us, h1, h2, h3⟩ := firstF_tree e
        rw [List.nil_append] at h2
        rw [List.length_range] at h1
        subst h2
        have each : ∀ i t, us[i]? = some t → IsT R W m rest (ws ++ [w]) (ext k w i) t ∧ hasFit t = false := fun i t ht => by
          have hi : i < min (usd k ws + 1) m := by have := (List.getElem?_eq_some_iff.mp ht).1; omega
          have := g i hi
          rw [h3 i i t (List.getElem?_range hi) ht] at this
          exact this
        refine ⟨.try_ no hk h1 fun i t ht => (each i t ht).1, ?_⟩
        rw [has_try]
        cases c : hasFits us with
        | false => rfl
        | true =>
          obtain ⟨t, ht, et⟩ := (hasFits_iff us).mp c
          obtain ⟨i, hi, rfl⟩ := List.getElem_of_mem ht
          rw [(each i _ (List.getElem?_eq_getElem hi)).2] at et
          cases et
      | found k' =>
        obtain ⟨i, hi, ei⟩ := firstF_found e
        rw [List.mem_range] at hi
        have := g i hi
        rw [ei] at this
        exact ⟨le_trans (v.step (min_lt hi) (.inl hk)).1.le this.1, this.2⟩
/-! ### how many tries -/
def cst (m : Nat) : Nat → Nat → Nat → Nat
  | 0, _, _ => 0
  | n + 1, f, u => max (1 + cst m n f u) (if f = 0 then 0 else (min u m) * (1 + cst m n (f - 1) u) + (if u < m then 1 + cst m n (f - 1) (u + 1) else 0))
/-- what the first i ways take -/
def bs (m n f u i : Nat) : Nat := (min i u) * (1 + cst m n f u) + (if u < i then 1 + cst m n f (u + 1) else 0)
theorem bs_succ {m n f u i : Nat} (h : i < u + 1) : bs m n f u (i + 1) = bs m n f u i + (1 + cst m n f (max u (i + 1))) := by
  unfold bs
  by_cases c : i < u
  · rw [if_neg (by omega), if_neg (by omega), Nat.max_eq_left (by omega), Nat.min_eq_left (by omega), Nat.min_eq_left (by omega), Nat.succ_mul]
    omega
  · have : i = u := by omega
    subst this
    rw [if_pos (by omega), if_neg (by omega), Nat.max_eq_right (by omega), Nat.min_eq_right (by omega), Nat.min_self]
    omega
theorem bs_le {m n f u i : Nat} (h : i ≤ min (u + 1) m) (hf : 0 < f) : bs m n (f - 1) u i ≤ cst m (n + 1) f u := by
  rw [cst]
  refine Nat.le_trans ?_ (Nat.le_max_right _ _)
  rw [if_neg (by omega)]
  unfold bs
  have h1 : min i u ≤ min u m := by omega
  have h2 := Nat.mul_le_mul_right (1 + cst m n (f - 1) u) h1
  by_cases c : u < i
  · rw [if_pos c, if_pos (by omega)]; omega
  · rw [if_neg c]; omega
theorem cst_one {m n f u : Nat} : 1 + cst m n f u ≤ cst m (n + 1) f u := by rw [cst]; exact Nat.le_max_left _ _
def fr1 (k : Lk) (r : Nat) : Nat := (if (k r 0).isNone = true then 1 else 0) + (if (k r 1).isNone = true then 1 else 0)
def free (m : Nat) (k : Lk) : Nat := ((List.range m).map (fr1 k)).sum
theorem free_succ (m : Nat) (k : Lk) : free (m + 1) k = free m k + fr1 k m := by
  unfold free
  rw [List.range_succ, List.map_append, List.sum_append]
  simp
theorem free_put {k : Lk} {r c s : Nat} (hc : c < 2) (hn : k r c = none) : ∀ m : Nat, free m (k.put r c s) + (if r < m then 1 else 0) = free m k
  | 0 => by simp [free]
  | m + 1 => by
    have ih := free_put (s := s) hc hn m
    rw [free_succ, free_succ]
    have c01 : c = 0 ∨ c = 1 := by omega
    by_cases e : r = m
    · subst e
      rw [if_neg (by omega)] at ih
      rw [if_pos (by omega)]
      have : fr1 (k.put r c s) r + 1 = fr1 k r := by
        unfold fr1 Lk.put
        rcases c01 with rfl | rfl
        · simp [hn]; omega
        · simp [hn]
      omega
    · have : fr1 (k.put r c s) m = fr1 k m := by
        have ne : m ≠ r := fun z => e z.symm
        simp [fr1, Lk.put, ne]
      by_cases l : r < m
      · rw [if_pos l] at ih; rw [if_pos (by omega)]; omega
      · rw [if_neg l] at ih; rw [if_neg (by omega)]; omega
theorem free_k0 : ∀ m : Nat, free m k0 = 2 * m
  | 0 => rfl
  | m + 1 => by rw [free_succ, free_k0 m]; simp [fr1, k0]; omega
/-- how many tries may still be made -/
def bud (m n : Nat) (ws : List (List Nat)) (k : Lk) : Nat := if ws = [] then 1 + cst m (n - 1) (2 * m) 1 else cst m n (free m k) (usd k ws)
def costN : Nat → Nat → Nat
  | 0, _ => 0
  | m + 1, n => costN m n + (1 + cst (m + 1) (n - 1) (2 * (m + 1)) 1)
theorem cost3 : ∀ n, n < 14 → costN 3 n ≤ 3000 := by decide +kernel
theorem cost2 : ∀ n, n < 25 → costN 2 n ≤ 3000 := by decide +kernel
theorem cost1 : ∀ n, n < 25 → costN 1 n ≤ 3000 := by decide +kernel
end Toy

set_option Elab.async false
set_option linter.all false
set_option maxRecDepth 100000
set_option maxHeartbeats 4000000
namespace Toy
open PySem L2
def rowsF (k : Lk) (ws R : List (List Nat)) : List Rw := (List.range (usd k ws)).map fun r => (if (fstW k ws R r).isSome = true then 1 else 0, (k r 0).getD 0, (k r 1).getD 0)
def fewL (R W full : List (List Nat)) : List Nat → Tr → An
  | [], b => .more b
  | m :: ms, b => match goF R W m full [] k0 with
    | .found k => .few (rowsF k full R) b
    | .tree t => fewL R W full ms t
def fewF (R W full : List (List Nat)) (most : Nat) : An := fewL R W full (List.range' 1 most) .non
theorem root_go {R W full : List (List Nat)} {m : Nat} (pf : Pre full) (bi : Bin full) (beg : ∀ w, w ∈ full ↔ Beg (R ++ W) w) (m0 : 0 < m) : ∃ rest, full = [] :: rest ∧ Iv R W full m [[]] rest k0 ∧ RsOk R W full m rest [[]] k0 (goF R W m full [] k0) := by
  obtain ⟨rest, ef, iv⟩ := root_iv (R := R) (W := W) pf bi beg m0
  refine ⟨rest, ef, iv, ?_⟩
  rw [ef, goF_some (s := 0) rfl]
  have cn := clash_new (R := R) (W := W) (ws := []) (w := []) (k := k0) (k' := k0) (s := 0) (fun x hx => nomatch hx.2.2.1) (fun u hu => nomatch hu) ⟨fun z => (nomatch z), fun _ => ⟨rfl, rfl⟩, fun z => absurd rfl z⟩
  unfold gvF
  have e0 : ext k0 [] 0 = k0 := rfl
  rw [e0]
  have iv : Iv R W ([] :: rest) m [[]] rest k0 := by rw [← ef]; exact iv
  cases e : clash k0 ([] ++ [[]]) R W 0 with
  | some p => exact ⟨.bad (clash_is e), by simp [hasFit]⟩
  | none => exact go_ok iv fun x hx => by have := cn.mpr ⟨x, hx⟩; rw [e] at this; cases this
theorem rowsF_len (k : Lk) (ws R : List (List Nat)) : (rowsF k ws R).length = usd k ws := by unfold rowsF; rw [List.length_map, List.length_range]
theorem rowsF_get {k : Lk} {ws R : List (List Nat)} {r : Nat} (h : r < usd k ws) : (rowsF k ws R).getD r (0, 0, 0) = (if (fstW k ws R r).isSome = true then 1 else 0, (k r 0).getD 0, (k r 1).getD 0) := by
  unfold rowsF
  rw [List.getD_eq_getElem?_getD, List.getElem?_map, List.getElem?_range h]
  rfl
theorem rowsF_walk {k : Lk} {ws R : List (List Nat)} (lt : ∀ r c s, k r c = some s → s < usd k ws ∧ r < usd k ws) : ∀ (w : List Nat) (r s : Nat), (∀ c ∈ w, c < 2) → r < usd k ws → run k r w = some s → walkRw (rowsF k ws R) r w = s
  | [], r, s, _, _, e => by injection e
  | c :: w, r, s, hc, hr, e => by
    unfold run at e
    cases g : k r c with
    | none => rw [g] at e; cases e
    | some t =>
      rw [g] at e
      have e1 : goRw (rowsF k ws R) r c = t := by
        unfold goRw
        rw [rowsF_get hr]
        have := hc c List.mem_cons_self
        have : c = 0 ∨ c = 1 := by omega
        rcases this with rfl | rfl
        · rw [if_pos rfl]; show (k r 0).getD 0 = t; rw [g]; rfl
        · rw [if_neg (by decide)]; show (k r 1).getD 0 = t; rw [g]; rfl
      rw [walkRw, e1]
      exact rowsF_walk lt w t s (fun c m => hc c (List.mem_cons_of_mem _ m)) (lt _ _ _ g).1 e
theorem fst_some {k : Lk} {ws R : List (List Nat)} {r : Nat} : (fstW k ws R r).isSome = true ↔ ∃ a, a ∈ R ∧ a ∈ ws ∧ rwN k a = r := by
  unfold fstW
  rw [List.find?_isSome]
  constructor
  · rintro ⟨a, h1, h2⟩
    rw [Bool.and_eq_true, decide_eq_true_eq, decide_eq_true_eq] at h2
    exact ⟨a, h2.1, h1, h2.2⟩
  · rintro ⟨a, h1, h2, h3⟩
    refine ⟨a, h2, ?_⟩
    rw [Bool.and_eq_true, decide_eq_true_eq, decide_eq_true_eq]
    exact ⟨h1, h3⟩
theorem rowsF_ok {R W full : List (List Nat)} {m : Nat} {k : Lk} (bR : Bin R) (bW : Bin W) (v : Iv R W full m full [] k) (no : ∀ x, ¬ isClash k full R W x) : fullB (rowsF k full R) = true ∧ fitsB (rowsF k full R) R W = true := by
  have u0 : 0 < usd k full := by have := usd_mem (k := k) v.nil; omega
  have nx : ∀ r c, (k r c).getD 0 < usd k full := fun r c => by
    cases e : k r c with
    | none => exact u0
    | some s => exact (v.lt _ _ _ e).1
  refine ⟨?_, ?_⟩
  · unfold fullB
    rw [Bool.and_eq_true, List.all_eq_true, rowsF_len]
    refine ⟨?_, fun x hx => ?_⟩
    · cases e : rowsF k full R with
      | nil => have := rowsF_len k full R; rw [e] at this; simp at this; omega
      | cons _ _ => rfl
    · obtain ⟨r, _, rfl⟩ := List.mem_map.mp hx
      unfold rowB
      simp only [Bool.and_eq_true, decide_eq_true_eq]
      exact ⟨⟨by split <;> decide, nx r 0⟩, nx r 1⟩
  · have wk : ∀ w, w ∈ R ++ W → w ∈ full ∧ walkRw (rowsF k full R) 0 w = rwN k w := fun w hw => by
      have hf : w ∈ full := (v.beg w).mpr (.inr ⟨w, hw, List.prefix_refl _⟩)
      obtain ⟨s, hs⟩ := Option.isSome_iff_exists.mp (v.all w hf)
      refine ⟨hf, ?_⟩
      rw [rowsF_walk v.lt w 0 s ((List.mem_append.mp hw).elim (bR w) (bW w)) u0 hs]
      unfold rwN
      rw [hs]; rfl
    unfold fitsB
    rw [Bool.and_eq_true, List.all_eq_true, List.all_eq_true]
    refine ⟨fun w hw => decide_eq_true ?_, fun w hw => decide_eq_true ?_⟩
    · obtain ⟨hf, e⟩ := wk w (List.mem_append_left _ hw)
      rw [e]
      unfold endRw
      rw [rowsF_get (usd_mem hf)]
      exact if_pos (fst_some.mpr ⟨w, hw, hf, rfl⟩)
    · obtain ⟨hf, e⟩ := wk w (List.mem_append_right _ hw)
      rw [e]
      unfold endRw
      rw [rowsF_get (usd_mem hf)]
      refine if_neg fun z => ?_
      obtain ⟨a, h1, h2, h3⟩ := fst_some.mp z
      exact no (a, w) ⟨h1, hw, h2, hf, h3⟩
/-- what an answer means -/
def FewOk (R W full : List (List Nat)) (most : Nat) : An → Prop
  | .few l b => 1 ≤ l.length ∧ l.length ≤ most ∧ (∀ j, 1 ≤ j → j < l.length → ¬ Fits j (smp R W) k0) ∧ Fits l.length (smp R W) k0 ∧ fullB l = true ∧ fitsB l R W = true ∧ (if l.length = 1 then b = .non else acc R W (l.length - 1) full [] k0 b = true) ∧ (b = .non ∨ Ht (full.length + 1) b)
  | .more b => (∀ j, 1 ≤ j → j ≤ most → ¬ Fits j (smp R W) k0) ∧ acc R W most full [] k0 b = true ∧ (b = .non ∨ Ht (full.length + 1) b)
theorem few_step {R W full : List (List Nat)} (pf : Pre full) (bi : Bin full) (beg : ∀ w, w ∈ full ↔ Beg (R ++ W) w) (bR : Bin R) (bW : Bin W) (most : Nat) (m3 : most ≤ 3) : ∀ (n i : Nat) (b : Tr), i + n = most → 1 ≤ most →
    (∀ j, 1 ≤ j → j ≤ i → ¬ Fits j (smp R W) k0) → (if i = 0 then b = .non else acc R W i full [] k0 b = true) → (b = .non ∨ Ht (full.length + 1) b) → FewOk R W full most (fewL R W full ((List.range' (i + 1) n)) b)
  | 0, i, b, e, p, nf, hb, ht => by
    rw [show List.range' (i + 1) 0 = [] from rfl, fewL]
    have ei : i = most := by omega
    subst ei
    rw [if_neg (by omega)] at hb
    exact ⟨nf, hb, ht⟩
  | n + 1, i, b, e, p, nf, hb, ht => by
    rw [List.range'_succ, fewL]
    obtain ⟨rest, ef, iv, rs⟩ := root_go (R := R) (W := W) (m := i + 1) pf bi beg (by omega)
    cases g : goF R W (i + 1) full [] k0 with
    | tree t =>
      rw [g] at rs
      have nf2 : ¬ Fits (i + 1) (smp R W) k0 := fun z => by
        have := (tree_fits rs.1 iv).mpr z
        rw [rs.2] at this; cases this
      have ac : acc R W (i + 1) full [] k0 t = true := by
        have := root_acc (tree_taken rs.1 iv rs.2)
        rw [← ef] at this
        exact this
      refine few_step pf bi beg bR bW most m3 n (i + 1) t (by omega) p (fun j h1 h2 => ?_) (by rw [if_neg (by omega)]; exact ac) (.inr ((rs.1.ht (by omega) (by omega)).mono (by rw [ef, List.length_cons]; omega)))
      by_cases c : j = i + 1
      · subst c; exact nf2
      · exact nf j h1 (by omega)
    | found k =>
      rw [g] at rs
      obtain ⟨le, v, no⟩ := rs
      obtain ⟨fb, ff⟩ := rowsF_ok bR bW v no
      have u0 : 0 < usd k full := by have := usd_mem (k := k) v.nil; omega
      have um := v.um
      have fu : Fits (usd k full) (smp R W) k0 := (fits_end ⟨v.ef, v.pre, v.nil, v.all, v.lt, Nat.le_refl _, v.bin, v.beg⟩ no).down le
      have el : usd k full = i + 1 := by
        by_cases c : usd k full ≤ i
        · exact absurd fu (nf _ (by omega) c)
        · omega
      refine ⟨?_, ?_, fun j h1 h2 => nf j h1 ?_, ?_, fb, ff, ?_, ht⟩
      · rw [rowsF_len]; omega
      · rw [rowsF_len]; omega
      · rw [rowsF_len] at h2; omega
      · rw [rowsF_len]; exact fu
      · rw [rowsF_len, el]
        by_cases c : i = 0
        · subst c; rw [if_pos rfl] at hb; rw [if_pos rfl]; exact hb
        · rw [if_neg c] at hb; rw [if_neg (by omega), Nat.add_sub_cancel]; exact hb
theorem few_ok {R W full : List (List Nat)} (pf : Pre full) (bi : Bin full) (beg : ∀ w, w ∈ full ↔ Beg (R ++ W) w) (bR : Bin R) (bW : Bin W) {most : Nat} (m0 : 1 ≤ most) (m3 : most ≤ 3) : FewOk R W full most (fewF R W full most) := by
  unfold fewF
  have := few_step pf bi beg bR bW most m3 most 0 .non (by omega) m0 (fun j h1 h2 => by omega) (by rw [if_pos rfl]) (.inl rfl)
  exact this
theorem few_judge {R W full : List (List Nat)} {most : Nat} {an : An} (h : FewOk R W full most an) : judgeB full R W most an = true := by
  cases an with
  | more b => exact h.2.1
  | few l b =>
    obtain ⟨h1, h2, h3, h4, h5, h6, h7, h8⟩ := h
    rw [judgeB, h5, h6, decide_eq_true h2]
    by_cases c : l.length = 1
    · rw [if_pos c] at h7 ⊢; rw [h7]; rfl
    · rw [if_neg c] at h7 ⊢; rw [h7]; rfl
theorem fits_congr {m : Nat} {ss st : List (List Nat × Nat)} {k : Lk} (h : ∀ x, x ∈ st → x ∈ ss) (f : Fits m ss k) : Fits m st k := by
  obtain ⟨δ, f1, f2, f3⟩ := f
  exact ⟨δ, f1, f2, fun x hx y hy => f3 x (h x hx) y (h y hy)⟩
/-- the number of rows of an answer -/
def anLen : An → Option Nat
  | .few l _ => some l.length
  | .more _ => none
theorem few_len {R W full R' W' full' : List (List Nat)} {most : Nat} {an an' : An} (h : FewOk R W full most an) (h' : FewOk R' W' full' most an') (a : ∀ x, x ∈ smp R W ↔ x ∈ smp R' W') : anLen an = anLen an' := by
  have f : ∀ m, Fits m (smp R W) k0 ↔ Fits m (smp R' W') k0 := fun m => ⟨fits_congr fun x h => (a x).mpr h, fits_congr fun x h => (a x).mp h⟩
  cases an with
  | more b => cases an' with
    | more b' => rfl
    | few l' b' => exact absurd ((f _).mpr h'.2.2.2.1) (h.1 _ h'.1 h'.2.1)
  | few l b => cases an' with
    | more b' => exact absurd ((f _).mp h.2.2.2.1) (h'.1 _ h.1 h.2.1)
    | few l' b' =>
      show some l.length = some l'.length
      congr 1
      by_cases c : l.length < l'.length
      · exact absurd ((f _).mp h.2.2.2.1) (h'.2.2.1 _ h.1 c)
      · by_cases d : l'.length < l.length
        · exact absurd ((f _).mpr h'.2.2.2.1) (h.2.2.1 _ h'.1 d)
        · omega
/-! depths -/
theorem deeps_le {n : Nat} : ∀ {l : List Da}, (∀ x ∈ l, x.deep ≤ n) → Da.deeps l ≤ n
  | [], _ => by rw [Da.deeps]; exact Nat.zero_le _
  | x :: l, h => by
    rw [Da.deeps]
    have := h x List.mem_cons_self
    have := deeps_le (l := l) fun y m => h y (List.mem_cons_of_mem _ m)
    omega
theorem tup_deep {n : Nat} {l : List Da} (h : ∀ x ∈ l, x.deep ≤ n) : (Da.tup l).deep ≤ n + 1 := by
  rw [Da.deep]
  have := deeps_le h
  omega
theorem d_str (x : Str) : (Da.str x).deep = 0 := by simp [Da.deep]
theorem d_int (x : Int) : (Da.int x).deep = 0 := by simp [Da.deep]
theorem d_non : Da.non.deep = 0 := by simp [Da.deep]
theorem ht_deep : ∀ {n : Nat} {t : Tr}, Ht n t → t.da.deep ≤ 2 * n + 1
  | n + 1, .try_ ts, h => by
    rw [Tr.da, das_map]
    refine tup_deep (n := 2 * n + 2) fun x hx => ?_
    simp only [List.mem_cons, List.not_mem_nil, or_false] at hx
    rcases hx with rfl | rfl
    · rw [d_str]; omega
    · refine tup_deep fun y hy => ?_
      obtain ⟨t, ht, rfl⟩ := List.mem_map.mp hy
      exact ht_deep (h.2.2 t ht)
  | n + 1, .fits, _ => by
    rw [Tr.da]
    refine Nat.le_trans (tup_deep (n := 0) fun x hx => ?_) (by omega)
    simp at hx; subst hx; rw [d_str]; omega
  | n + 1, .bad a b, _ => by
    rw [Tr.da]
    refine Nat.le_trans (tup_deep (n := 1) fun x hx => ?_) (by omega)
    simp only [List.mem_cons, List.not_mem_nil, or_false] at hx
    rcases hx with rfl | rfl | rfl
    · rw [d_str]; omega
    · exact wd_deep a
    · exact wd_deep b
theorem rws_deep (l : List Rw) : (rwsD l).deep ≤ 3 := by
  unfold rwsD
  refine tup_deep (n := 2) fun x hx => ?_
  obtain ⟨r, _, rfl⟩ := List.mem_map.mp hx
  unfold rwD
  refine tup_deep (n := 1) fun y hy => ?_
  simp only [List.mem_cons, List.not_mem_nil, or_false] at hy
  rcases hy with rfl | rfl
  · rw [d_int]; omega
  · exact wd_deep _
theorem an_deep {R W full : List (List Nat)} {most : Nat} {an : An} (h : FewOk R W full most an) (few : full.length ≤ 30) : an.da.deep ≤ 90 := by
  have tr : ∀ b, (b = .non ∨ Ht (full.length + 1) b) → b.da.deep ≤ 64 := fun b hb => by
    rcases hb with rfl | hb
    · rw [Tr.da, d_non]; omega
    · have := ht_deep hb; omega
  cases an with
  | more b =>
    refine Nat.le_trans (tup_deep (n := 64) fun x hx => ?_) (by omega)
    simp only [List.mem_cons, List.not_mem_nil, or_false] at hx
    rcases hx with rfl | rfl
    · rw [d_str]; omega
    · exact tr b h.2.2
  | few l b =>
    refine Nat.le_trans (tup_deep (n := 64) fun x hx => ?_) (by omega)
    simp only [List.mem_cons, List.not_mem_nil, or_false] at hx
    rcases hx with rfl | rfl | rfl
    · rw [d_str]; omega
    · have := rws_deep l; omega
    · exact tr b h.2.2.2.2.2.2.2
end Toy
namespace L2
open PySem PySem.Spec PyProof.Rows
theorem pe_fldK {X : Cx} (K : PySem.W.Frag) (hK : X.K = K) {e : Expr} {f : Str} {pos : Pos} {ta : TE} (he : PE X e ta) (hb : attributeBase e f X.env (eval e X.env) = eval e X.env) : PE X (.Attribute e f pos) (tFld K ta f) := by
  subst hK
  exact pe_fld he hb
theorem ps_no {X : Cx} {st : Stmt} : PS X st (fun _ _ _ => False) := ⟨fun _ _ _ _ _ _ h => h.elim⟩
end L2

set_option Elab.async false
set_option linter.all false
set_option maxRecDepth 100000
set_option maxHeartbeats 4000000
namespace Toy
open PySem L2
def spRowsF (CR : Addr) : Sp := fun vs H Q _ => ∃ a k ws R W, vs = [.ref a.p, .int 2] ∧ SI CR H a k ws R W ∧ usd k ws ≤ 900 ∧ ∀ v H', Same H H' → DV H' v (rwsD (rowsF k ws R)) → Q v H'
section
variable {P : Program} {w : World} {K : PySem.W.Frag} {mg : Str → Option Value} {base : Heap} {CR : Addr}
abbrev s_r_full_rows : Stmt := inClass (top 17) 4
theorem sc_r_full_rows : FnScope ["self", "base", "made", "row", "ends", "cell"] ["self", "base"] (defScope s_r_full_rows) := ⟨rfl, rfl, rfl, by decide +kernel, rfl, by decide +kernel, by decide +kernel⟩

theorem ok_r_rows {f : Addr} {fd : FuncData} (F : Fun K "full_rows" "RowState.full_rows" s_r_full_rows f fd) (T : Txt K mg CR) : FnOk P w K mg base CX0 1 f fd ["self", "base"] (spRowsF CR) := by
  refine F.ok sc_r_full_rows (fun vs H Q E h => ?_) (fun cdv A outer s H vs Q E hr h => ?_)
  · obtain ⟨a, k, ws, R, W, rfl, _⟩ := h
    rfl
  obtain ⟨a, lk, ws, R, W, rfl, S, us9, kk⟩ := h
  obtain ⟨m, hm, ml, mv⟩ := S.lks
  obtain ⟨mr, hmr, amr⟩ := S.ra
  have amr : atM H mr lk ws R := amr
  refine ⟨_, (pss_cons (ps_set (i := 2) sc_r_full_rows.nd rfl (Or.inl rfl) (pe_lst pa_nil))
    (pss_cons (ps_for PassesOwn.never rfl (pi_range1 (by rfl) T.z_range (pa_cons (pe_fld (pv 0) rfl) pa_nil)) (pg_name (i := 3) sc_r_full_rows.nd rfl (Or.inr rfl)) (pss_cons (ps_set (i := 4) sc_r_full_rows.nd rfl (Or.inl rfl) pe_int)
    (C8.pss_cut (ps_if (pt_cmp (pc_din (hu_b hr) (pv 3) (pe_fld (pv 0) rfl)) rfl) (pss_one (ps_set (i := 4) sc_r_full_rows.nd rfl (Or.inl rfl) pe_int)) pss_nil)
    (pss_one (ps_expr (pe_bm PySem.F.plainAttrs_list PySem.F.slot_list_append PySem.F.type_list_append mt_append (pv 2) (pa_cons (pe_tup (pa_cons (pv 4) (pa_cons (pe_callTy call_tuple_of (by rfl) T.z_tuple b_tuple (pa_cons (pe_lc (own := [("cell", 5)]) (g := gName 5) (by rfl) sc_r_full_rows.nd (pi_range1 (by rfl) T.z_range (pa_cons (pv 1) pa_nil)) (blkOk_by (own := [("cell", 5)]) (N := ["self", "base", "made", "row", "ends", "cell"]) (sc := defScope s_r_full_rows) (by decide +kernel)) (fun _ _ _ _ _ => pg_name (i := 5) sc_r_full_rows.nd rfl (Or.inl rfl)) (fun _ _ _ _ _ => pts_nil) (fun _ _ _ _ _ => (pe_dget2 (hu_b hr) (pe_fldK K rfl (pv 0) rfl) (pe_tup (pa_cons (pv 3) (pa_cons (pv 5) pa_nil))) pe_int ⟨by rfl, by rfl, by rfl, by rfl⟩))) pa_nil)) pa_nil))) pa_nil)))))))
    (pss_one (ps_ret (pe_callTy call_tuple_of (by rfl) T.z_tuple b_tuple (pa_cons (pv 2) pa_nil)))))), ?_⟩
  refine ⟨by show 0 ≤ sizeLine; decide, fun D hD => ?_⟩
  have s1 : Same H (upd H D (.lst [])) := Same.upd hD
  have hD1 : upd H D (.lst []) D = some (.lst []) := upd_same
  generalize upd H D (.lst []) = H1 at s1 hD1 ⊢
  refine ⟨_, rfl, a.p, CR, a.dx, _, _, rfl, s1 _ _ S.obj, T.cl, T.nU, lkU, _, rfl, by omega, by omega, ?_⟩
  refine for_range (lo := 0) (n := ((usd lk ws : Nat) : Int).toNat) (fun j σ H' => Same H H' ∧ (∃ g3 g4, σ = [some (.ref a.p), some (.int 2), some (.ref D), g3, g4, none]) ∧ ∃ us, H' D = some (.lst us) ∧ DVs H' us (((rowsF lk ws R).take j).map rwD)) ⟨s1, ⟨_, _, rfl⟩, [], hD1, .nil⟩ (fun j σ H' hj h => ?_) (fun σ H' h => ?_)
  · obtain ⟨s2, ⟨g3, g4, rfl⟩, us, e2, d2⟩ := h
    rw [Int.toNat_natCast] at hj
    have dl := d2.length
    rw [List.length_map, List.length_take, rowsF_len] at dl
    have ej : (0 : Int) + ((j : Nat) : Int) = ((j : Nat) : Int) := by omega
    rw [ej]
    refine ⟨fun σ' H2 => H2 = H' ∧ σ' = [some (.ref a.p), some (.int 2), some (.ref D), some (.int ((j : Nat) : Int)), some (.int (((if (fstW lk ws R j).isSome = true then 1 else 0 : Nat)) : Int)), none], ?_, ?_⟩
    · have is := amr.is j
      refine ⟨_, rfl, _, rfl, a.p, CR, a.dx, _, _, rfl, s2 _ _ S.obj, T.cl, T.nR, lkR, a.r, _, rfl, .k (k := Sum.inl ((j : Nat) : Int)) (s2 _ _ hmr), _, rfl, ?_⟩
      rw [is]
      refine ite2 (fun c => ?_) (fun c => ?_)
      · rw [if_pos c]; exact ⟨rfl, rfl⟩
      · rw [if_neg c]; exact ⟨rfl, rfl⟩
    · rintro σ' H2 ⟨rfl, rfl⟩
      refine ⟨_, rfl, .inl ⟨rfl, _, SqL.of e2⟩, ?_⟩
      refine ⟨_, rfl, _, rfl, _, rfl, by decide, by decide, fun D2 hD2 => ?_⟩
      refine lc_range (lo := 0) (n := (2 : Int).toNat) (fun c H3 => Same H2 H3 ∧ H3 D2 = some (.lst ((List.range c).map fun c => V.int (((lk j c).getD 0 : Nat) : Int)))) ⟨Same.upd hD2, by rw [upd_same]; rfl⟩ (fun c H3 hc h => ?_) (fun H3 h => ?_)
      · obtain ⟨s3, e3⟩ := h
        have ec : (0 : Int) + ((c : Nat) : Int) = ((c : Nat) : Int) := by omega
        rw [ec]
        refine ⟨rfl, ?_⟩
        simp only [tYes, if_true]
        have s23 := s2.trans s3
        refine ⟨_, rfl, a.p, CR, a.dx, _, _, rfl, s23 _ _ S.obj, T.cl, T.nL, lkL, a.l, rfl, .inr ⟨m, .inl (s23 _ _ hm)⟩, ?_⟩
        refine ⟨_, rfl, _, rfl, by show 2 ≤ sizeLine; decide, fun t ht => ?_⟩
        have s4 : Same H3 (upd H3 t (.tup [.int ((j : Nat) : Int), .int ((c : Nat) : Int)])) := Same.upd ht
        have kt : upd H3 t (.tup [.int ((j : Nat) : Int), .int ((c : Nat) : Int)]) t = some (.tup (([Sum.inl ((j : Nat) : Int), Sum.inl ((c : Nat) : Int)] : List Key).map kV)) := upd_same
        generalize upd H3 t (.tup [.int ((j : Nat) : Int), .int ((c : Nat) : Int)]) = H4 at s4 kt ⊢
        refine ⟨_, DGet.t (s4 _ _ (s23 _ _ hm)) kt, ?_⟩
        rw [mv]
        have ev : ((lk j c).map fun v => V.int ((v : Nat) : Int)).getD (V.int 0) = V.int (((lk j c).getD 0 : Nat) : Int) := by cases lk j c <;> rfl
        rw [ev]
        refine ⟨_, s4 _ _ e3, small1000 (by rw [List.length_map, List.length_range]; have : c < 2 := hc; omega), fun b o e => ?_, ?_⟩
        · rw [upd_ne (ne_of_none e hD2)]; exact s4 _ _ (s3 _ _ e)
        · rw [upd_same, List.range_succ, List.map_append]; rfl
      · obtain ⟨s3, e3⟩ := h
        have e3 : H3 D2 = some (.lst [V.int (((lk j 0).getD 0 : Nat) : Int), V.int (((lk j 1).getD 0 : Nat) : Int)]) := e3
        refine ⟨D2, _, rfl, .inl ⟨SqL.of e3, fun t1 ht1 => ⟨by show 2 ≤ sizeLine; decide, fun t2 ht2 => ?_⟩⟩⟩
        have n12 : t1 ≠ t2 := fun z => by rw [← z, upd_same] at ht2; cases ht2
        have s4 : Same H3 (upd (upd H3 t1 (.tup [V.int (((lk j 0).getD 0 : Nat) : Int), V.int (((lk j 1).getD 0 : Nat) : Int)])) t2 (.tup [.int (((if (fstW lk ws R j).isSome = true then 1 else 0 : Nat)) : Int), .ref t1])) := (Same.upd ht1).trans (Same.upd ht2)
        have v4 : DV (upd (upd H3 t1 (.tup [V.int (((lk j 0).getD 0 : Nat) : Int), V.int (((lk j 1).getD 0 : Nat) : Int)])) t2 (.tup [.int (((if (fstW lk ws R j).isSome = true then 1 else 0 : Nat)) : Int), .ref t1])) (.ref t2) (rwD (if (fstW lk ws R j).isSome = true then 1 else 0, (lk j 0).getD 0, (lk j 1).getD 0)) :=
          .tup upd_same (.cons (.int _) (.cons (.tup (by rw [upd_ne n12, upd_same]) (.cons (.int _) (.cons (.int _) .nil))) .nil))
        generalize upd (upd H3 t1 (.tup [V.int (((lk j 0).getD 0 : Nat) : Int), V.int (((lk j 1).getD 0 : Nat) : Int)])) t2 (.tup [.int (((if (fstW lk ws R j).isSome = true then 1 else 0 : Nat)) : Int), .ref t1]) = H4 at s4 v4 ⊢
        have e4 := s4 _ _ (s3 _ _ e2)
        have tp : Tups H4 (upd H4 D (.lst (us ++ [.ref t2]))) := tups_upd fun xs e => by rw [e4] at e; cases e
        refine ⟨D, us, _, rfl, rfl, e4, small1000 (by omega), fun b o e => ?_, ⟨_, _, rfl⟩, us ++ [.ref t2], upd_same, ?_⟩
        · rw [upd_ne (ne_of_none e hD)]; exact s4 _ _ (s3 _ _ (s2 _ _ e))
        · have rg : (rowsF lk ws R)[j]? = some (if (fstW lk ws R j).isSome = true then 1 else 0, (lk j 0).getD 0, (lk j 1).getD 0) := by
            unfold rowsF
            rw [List.getElem?_map, List.getElem?_range hj]
            rfl
          rw [List.take_succ, rg, List.map_append]
          exact ((d2.mono (same_tp (s3.trans s4))).mono tp).snoc (v4.mono tp)
  · obtain ⟨s2, ⟨g3, g4, rfl⟩, us, e2, d2⟩ := h
    rw [Int.toNat_natCast, List.take_of_length_le (by rw [rowsF_len]; exact Nat.le_refl _)] at d2
    refine ⟨_, rfl, D, _, rfl, .inl ⟨SqL.of e2, fun tq htq => ?_⟩⟩
    exact kk _ _ (s2.trans (Same.upd htq)) (.tup upd_same (d2.mono (tups_new htq)))
end
end Toy

set_option Elab.async false
set_option linter.all false
set_option maxRecDepth 100000
set_option maxHeartbeats 4000000
namespace Toy
open PySem L2
structure Tx (P : Program) (K : PySem.W.Frag) (mg : Str → Option Value) (CR CT CF CL fL cL dL CC fC cC dC : Addr) : Prop extends Txt K mg CR where
  g_MOST_BEGINNINGS : ∃ t, mg "MOST_BEGINNINGS" = some (.int 24 t)
  g_MOST_TRIES : ∃ t, mg "MOST_TRIES" = some (.int 3000 t)
  g_Clash : mg "Clash" = some (.ref CC)
  x_Clash : PySem.SupX_C.SupTxt P K mg CC fC cC dC
  g_TooLarge : mg "TooLarge" = some (.ref CL)
  x_TooLarge : PySem.SupX_L.SupTxt P K mg CL fL cL dL
  g_FormatError : mg "FormatError" = some (.ref CF)
  nLC : PySem.W.exmOne K (.ref CL) (.ref CC) = some false
  clT : Cls K CT
  nS : NoAttr K CT "samples"
  nWo : NoAttr K CT "words"
  nTr : NoAttr K CT "tries"
/-! the object that counts the tries -/
abbrev tS (v : V) : Str × V := (("samples" : Str), v)
abbrev tW (v : V) : Str × V := (("words" : Str), v)
abbrev tT (v : V) : Str × V := (("tries" : Str), v)
abbrev tfs (sp q : Addr) (n : Nat) : List (Str × V) := [tS (.ref sp), tW (.ref q), tT (.int ((n : Nat) : Int))]
theorem m12 : ("samples" : Str) ≠ "words" := by decide +kernel
theorem m13 : ("samples" : Str) ≠ "tries" := by decide +kernel
theorem m23 : ("words" : Str) ≠ "tries" := by decide +kernel
theorem ti1 {s : V} : putF "samples" s [] = [tS s] := by simp [putF]
theorem ti2 {s w : V} : putF "words" w [tS s] = [tS s, tW w] := by simp [putF, m12]
theorem ti3 {s w t : V} : putF "tries" t [tS s, tW w] = [tS s, tW w, tT t] := by simp [putF, m13, m23]
theorem tpT {s w t u : V} : putF "tries" u [tS s, tW w, tT t] = [tS s, tW w, tT u] := by simp [putF, m13, m23]
theorem tlS {s w t : V} : List.lookup ("samples" : Str) [tS s, tW w, tT t] = some s := by simp [List.lookup]
theorem tlW {s w t : V} : List.lookup ("words" : Str) [tS s, tW w, tT t] = some w := by simp [List.lookup, show (("words" : Str) == "samples") = false by decide +kernel]
theorem tlT {s w t : V} : List.lookup ("tries" : Str) [tS s, tW w, tT t] = some t := by simp [List.lookup, show (("tries" : Str) == "samples") = false by decide +kernel, show (("tries" : Str) == "words") = false by decide +kernel]
theorem tno {s w t : V} {m : Str} (h1 : (m == ("samples" : Str)) = false) (h2 : (m == ("words" : Str)) = false) (h3 : (m == ("tries" : Str)) = false) : List.lookup m [tS s, tW w, tT t] = none := by simp [List.lookup, h1, h2, h3]
theorem tnoG {s w t : V} : List.lookup ("give" : Str) [tS s, tW w, tT t] = none := tno (by decide +kernel) (by decide +kernel) (by decide +kernel)
theorem tnoO {s w t : V} : List.lookup ("go_on" : Str) [tS s, tW w, tT t] = none := tno (by decide +kernel) (by decide +kernel) (by decide +kernel)
structure TO (CT : Addr) (H : Hp) (t dx sp q : Addr) (n : Nat) (R W full : List (List Nat)) : Prop where
  obj : H t = some (.ins CT dx (tfs sp q n))
  smp : DV H (.ref sp) (sampD R W)
  lst : ∃ us, H q = some (.lst us) ∧ DVs H us (full.map wd)
theorem SI.move {CR : Addr} {H H' : Hp} {a : Ad} {k : Lk} {ws R W : List (List Nat)} (S : SI CR H a k ws R W) (e : ∀ b ∈ a.fp, ∀ o, H b = some o → H' b = some o) (tp : Tups H H') : SI CR H' a k ws R W := by
  obtain ⟨m, hm, ml, mv⟩ := S.lks
  obtain ⟨mr, hmr, ar⟩ := S.ra
  obtain ⟨mw, hmw, aw⟩ := S.wa
  have ar : atM H mr k ws R := ar
  have aw : atM H mw k ws W := aw
  exact ⟨e _ (by simp [Ad.fp]) _ S.obj, e _ (by simp [Ad.fp]) _ S.giv, S.all, S.nd, S.few, ⟨m, e _ (by simp [Ad.fp]) _ hm, ml, mv⟩, ⟨mr, e _ (by simp [Ad.fp]) _ hmr, ar.mono tp⟩, ⟨mw, e _ (by simp [Ad.fp]) _ hmw, aw.mono tp⟩, S.gl, S.rw⟩
theorem SI.there {CR : Addr} {H : Hp} {a : Ad} {k : Lk} {ws R W : List (List Nat)} (S : SI CR H a k ws R W) : ∀ b ∈ a.fp, ∃ o, H b = some o := fun b hb => by
  obtain ⟨m, hm, _⟩ := S.lks
  obtain ⟨mr, hmr, _⟩ := S.ra
  obtain ⟨mw, hmw, _⟩ := S.wa
  simp only [Ad.fp, List.mem_cons, List.not_mem_nil, or_false] at hb
  rcases hb with rfl | rfl | rfl | rfl | rfl
  · exact ⟨_, S.obj⟩
  · exact ⟨_, S.giv⟩
  · exact ⟨_, hm⟩
  · exact ⟨_, hmr⟩
  · exact ⟨_, hmw⟩
section
variable {CR CT : Addr} {H H' : Hp} {t dx sp q : Addr} {n n' : Nat} {R W full : List (List Nat)} {a : Ad} {k : Lk} {ws : List (List Nat)}
theorem TO.nfp (T : TO CT H t dx sp q n R W full) (S : SI CR H a k ws R W) : t ∉ a.fp := by
  obtain ⟨m, hm, _⟩ := S.lks
  obtain ⟨mr, hmr, _⟩ := S.ra
  obtain ⟨mw, hmw, _⟩ := S.wa
  have e := T.obj
  intro hb
  simp only [Ad.fp, List.mem_cons, List.not_mem_nil, or_false] at hb
  rcases hb with rfl | rfl | rfl | rfl | rfl
  · rw [S.obj] at e
    have e2 := Option.some.inj e
    injection e2 with _ _ e3
    injection e3 with e4
    injection e4 with e5
    exact absurd e5 (by decide +kernel)
  · rw [S.giv] at e; cases e
  · rw [hm] at e; cases e
  · rw [hmr] at e; cases e
  · rw [hmw] at e; cases e
theorem TO.same (T : TO CT H t dx sp q n R W full) (s : Same H H') : TO CT H' t dx sp q n R W full := by
  obtain ⟨us, h1, h2⟩ := T.lst
  exact ⟨s _ _ T.obj, T.smp.mono (same_tp s), us, s _ _ h1, h2.mono (same_tp s)⟩
/-- behind a change of a state -/
theorem TO.out (T : TO CT H t dx sp q n R W full) (S : SI CR H a k ws R W) (o : Out a.fp H H') : TO CT H' t dx sp q n R W full := by
  obtain ⟨us, h1, h2⟩ := T.lst
  have tp := S.tups o
  exact ⟨o _ _ (T.nfp S) T.obj, T.smp.mono tp, us, S.lst o h1, h2.mono tp⟩
theorem TO.tick (T : TO CT H t dx sp q n R W full) : TO CT (upd H t (.ins CT dx (tfs sp q n'))) t dx sp q n' R W full := by
  obtain ⟨us, h1, h2⟩ := T.lst
  have tp : Tups H (upd H t (.ins CT dx (tfs sp q n'))) := tups_upd fun xs e => by rw [T.obj] at e; cases e
  have qt : q ≠ t := ne_of h1 T.obj (fun z => nomatch z)
  exact ⟨upd_same, T.smp.mono tp, us, by rw [upd_ne qt]; exact h1, h2.mono tp⟩
theorem TO.tups (T : TO CT H t dx sp q n R W full) (S : SI CR H a k ws R W) (o : Out (t :: a.fp) H H') : Tups H H' := fun b xs e =>
  o b _ (fun z => by
    rcases List.mem_cons.mp z with rfl | z
    · rw [T.obj] at e; cases e
    · exact S.kinds e (fun _ _ _ z => nomatch z) (fun _ z => nomatch z) (fun _ z => nomatch z) z) e
theorem SI.tick (T : TO CT H t dx sp q n R W full) (S : SI CR H a k ws R W) : SI CR (upd H t (.ins CT dx (tfs sp q n'))) a k ws R W :=
  S.move (fun b hb o e => by rw [upd_ne (fun z => T.nfp S (by rw [← z]; exact hb))]; exact e) (tups_upd fun xs e => by rw [T.obj] at e; cases e)
end
theorem out_cons {t : Addr} {l : List Addr} {H H' : Hp} (o : Out l H H') : Out (t :: l) H H' := fun b u nb e => o b u (fun z => nb (List.mem_cons_of_mem _ z)) e
/-- before the next word -/
structure Jv (R W full : List (List Nat)) (m : Nat) (ws rest : List (List Nat)) (k : Lk) : Prop where
  ef : full = ws ++ rest
  pre : Pre full
  bin : Bin full
  beg : ∀ w, w ∈ full ↔ Beg (R ++ W) w
  m0 : 0 < m
  m3 : m ≤ 3
  no : ∀ x, ¬ isClash k ws R W x
  iv : (ws = [] ∧ k = k0) ∨ Iv R W full m ws rest k
section
variable {R W full : List (List Nat)} {m : Nat} {ws rest : List (List Nat)} {w : List Nat} {k : Lk} {s : Nat}
theorem Jv.step (J : Jv R W full m ws (w :: rest) k) (hs : s < m) (hk : forcedN k w = none ∨ forcedN k w = some s) : Step k (ext k w s) ws w s ∧ Iv R W full m (ws ++ [w]) rest (ext k w s) ∧ ∀ u ∈ ws, (run k 0 u).isSome = true := by
  rcases J.iv with ⟨rfl, rfl⟩ | v
  · obtain ⟨rest', ef, iv⟩ := root_iv (R := R) (W := W) J.pre J.bin J.beg J.m0
    have e := J.ef
    rw [ef] at e
    injection e with e1 e2
    subst e1
    subst e2
    refine ⟨J.pre.step J.ef hk, ?_, fun u hu => nomatch hu⟩
    exact iv
  · obtain ⟨a, b⟩ := v.step hs (by rw [← v.forced]; exact hk)
    exact ⟨a, b, v.all⟩
theorem Jv.next (J : Jv R W full m ws (w :: rest) k) (hs : s < m) (hk : forcedN k w = none ∨ forcedN k w = some s) (nc : clash (ext k w s) (ws ++ [w]) R W s = none) : Jv R W full m (ws ++ [w]) rest (ext k w s) := by
  obtain ⟨st, v, all⟩ := J.step hs hk
  refine ⟨v.ef, J.pre, J.bin, J.beg, J.m0, J.m3, fun x hx => ?_, .inr v⟩
  have := (clash_new J.no all st).mpr ⟨x, hx⟩
  rw [nc] at this
  cases this
theorem Jv.forced_lt (J : Jv R W full m ws (w :: rest) k) (h : forcedN k w = some s) : s < m := by
  rcases J.iv with ⟨rfl, rfl⟩ | v
  · unfold forcedN at h
    by_cases c : w = []
    · rw [if_pos c] at h; injection h with h; have := J.m0; omega
    · rw [if_neg c] at h; cases h
  · rw [v.forced] at h
    have := (v.lt _ _ _ h).1
    have := v.um
    omega
/-- the tries, where the row is forced -/
theorem Jv.bud_forced (J : Jv R W full m ws (w :: rest) k) (h : forcedN k w = some s) : 1 + bud m rest.length (ws ++ [w]) (ext k w s) ≤ bud m (rest.length + 1) ws k := by
  unfold bud
  rw [if_neg (by simp)]
  have sm := J.forced_lt h
  rcases J.iv with ⟨rfl, rfl⟩ | v
  · obtain ⟨rest', ef, iv⟩ := root_iv (R := R) (W := W) J.pre J.bin J.beg J.m0
    have e := J.ef
    rw [ef] at e
    injection e with e1 e2
    subst e1
    rw [if_pos rfl, Nat.add_sub_cancel]
    have : ext k0 [] s = k0 := rfl
    rw [this, free_k0]
    exact Nat.le_refl _
  · rw [if_neg (fun z => by have := v.nil; rw [z] at this; cases this)]
    rw [v.forced] at h
    have ek := fits_forced v h
    have us : usd (ext k w s) (ws ++ [w]) = usd k ws := by
      obtain ⟨st, v2⟩ := v.step sm (.inr h)
      rw [usd_snoc st.le v.all]
      have : rwN (ext k w s) w = s := by unfold rwN; rw [st.run v.all]; rfl
      rw [this]
      have := (v.lt _ _ _ h).1
      omega
    rw [us, ek]
    exact cst_one
theorem Jv.none_iv (J : Jv R W full m ws (w :: rest) k) (h : forcedN k w = none) : Iv R W full m ws (w :: rest) k := by
  rcases J.iv with ⟨rfl, rfl⟩ | v
  · obtain ⟨rest', ef, iv⟩ := root_iv (R := R) (W := W) J.pre J.bin J.beg J.m0
    have e := J.ef
    rw [ef] at e
    injection e with e1 e2
    subst e1
    cases h
  · exact v
/-- .. where several may be given -/
theorem Jv.bud_way (J : Jv R W full m ws (w :: rest) k) (h : forcedN k w = none) {i : Nat} (hi : i < min (usd k ws + 1) m) : bs m rest.length (free m k - 1) (usd k ws) i + (1 + bud m rest.length (ws ++ [w]) (ext k w i)) = bs m rest.length (free m k - 1) (usd k ws) (i + 1) ∧ bs m rest.length (free m k - 1) (usd k ws) (i + 1) ≤ bud m (rest.length + 1) ws k := by
  have v := J.none_iv h
  have hk : k (rwN k w.dropLast) (lst w) = none := by rw [← v.forced]; exact h
  have im := min_lt hi
  obtain ⟨st, v2⟩ := v.step im (.inl hk)
  have fp := free_put (s := i) v.lst hk m
  rw [if_pos (by have := v.row; have := v.um; omega), ← v.ext] at fp
  unfold bud
  rw [if_neg (by simp), if_neg (fun z => by have := v.nil; rw [z] at this; cases this)]
  have us : usd (ext k w i) (ws ++ [w]) = max (usd k ws) (i + 1) := by
    rw [usd_snoc st.le v.all]
    have : rwN (ext k w i) w = i := by unfold rwN; rw [st.run v.all]; rfl
    rw [this]
  rw [us, show free m (ext k w i) = free m k - 1 by omega]
  refine ⟨(bs_succ (by omega)).symm, bs_le (by omega) (by omega)⟩
end
/-- what the search tells -/
def GoV (CR : Addr) (full R W : List (List Nat)) (H : Hp) (v : V) : Rs → Prop
  | .found k => ∃ (b : Addr) (a : Ad), v = .ref b ∧ H b = some (.tup [.ref a.p, .non]) ∧ SI CR H a k full R W
  | .tree t => ∃ (b : Addr) (u : V), v = .ref b ∧ H b = some (.tup [.non, u]) ∧ DV H u t.da
def spGo (CR CT : Addr) : Nat → Sp
  | 0 => fun _ _ _ _ => False
  | n + 1 => fun vs H Q _ => ∃ t dx sp q tr a k ws rest full R W m, vs = [.ref t, .ref a.p, .int ((ws.length : Nat) : Int), .int ((m : Nat) : Int)] ∧ TO CT H t dx sp q tr R W full ∧ SI CR H a k ws R W ∧ Jv R W full m ws rest k ∧ rest.length ≤ n ∧ tr + bud m rest.length ws k ≤ 3000 ∧
    ∀ v H' tr', Out (t :: a.fp) H H' → TO CT H' t dx sp q tr' R W full → tr' ≤ tr + bud m rest.length ws k → GoV CR full R W H' v (goF R W m rest ws k) → Q v H'
def spTGive (CR CT : Addr) : Nat → Sp
  | 0 => fun _ _ _ _ => False
  | n + 1 => fun vs H Q _ => ∃ t dx sp q tr a k ws w rest full R W m s, vs = [.ref t, .ref a.p, .int ((ws.length : Nat) : Int), .int ((s : Nat) : Int), .int ((m : Nat) : Int)] ∧ TO CT H t dx sp q tr R W full ∧ SI CR H a k ws R W ∧ Jv R W full m ws (w :: rest) k ∧ s < m ∧ (forcedN k w = none ∨ forcedN k w = some s) ∧ rest.length ≤ n ∧
    tr + (1 + bud m rest.length (ws ++ [w]) (ext k w s)) ≤ 3000 ∧
    ∀ v H' tr', Out (t :: a.fp) H H' → TO CT H' t dx sp q tr' R W full → tr' ≤ tr + (1 + bud m rest.length (ws ++ [w]) (ext k w s)) → GoV CR full R W H' v (gvF (goF R W m rest) R W ws w k s) → Q v H'
end Toy

set_option Elab.async false
set_option linter.all false
set_option maxRecDepth 100000
set_option maxHeartbeats 4000000
namespace Toy
open PySem L2
section
variable {P : Program} {w : World} {K : PySem.W.Frag} {mg : Str → Option Value} {base : Heap} {CR CT CF CL fL cL dL CC fC cC dC : Addr}
abbrev s_t_give : Stmt := inClass (top 18) 1
theorem sc_t_give : FnScope ["self", "state", "at", "row", "most", "clash"] ["self", "state", "at", "row", "most"] (defScope s_t_give) := ⟨rfl, rfl, rfl, by decide +kernel, rfl, by decide +kernel, by decide +kernel⟩

theorem ok_t_give {l n : Nat} (hl : 4 ≤ l) {f : Addr} {fd : FuncData} (F : Fun K "give" "RowTries.give" s_t_give f fd) (T : Tx P K mg CR CT CF CL fL cL dL CC fC cC dC) (M_give : MetX P w K mg base CX0 1 CR "give" (spGive CR)) (M_go_on : MetX P w K mg base CX0 l CT "go_on" (spGo CR CT n)) : FnOk P w K mg base CX0 (l + 1) f fd ["self", "state", "at", "row", "most"] (spTGive CR CT n) := by
  cases n with
  | zero => exact ⟨fun _ _ _ _ h => h.elim, fun _ _ _ _ _ _ _ _ _ _ _ _ _ h => h.elim⟩
  | succ n =>
  refine F.ok sc_t_give (fun vs H Q E h => ?_) (fun cdv A outer s H vs Q E hr h => ?_)
  · obtain ⟨t, dx, sp, q, tr, a, k, ws, w, rest, full, R, W, m, s, rfl, _⟩ := h
    rfl
  obtain ⟨t, dx, sp, q, tr, a, k, ws, w0, rest, full, R, W, m, sr, rfl, TH, S, J, sm, hk, hn, hb, kk⟩ := h
  have hr : Room l _ := hr
  refine ⟨_, (pss_cons (ps_fldaug (pv 0) pe_int in_add)
    (pss_cons (ps_if (pt_cmpR op_gt (pe_fld (pv 0) rfl) (pe_gi T.g_MOST_TRIES) (nomark _)) (pss_one ps_no) pss_nil)
    (pss_cons (ps_set (i := 5) sc_t_give.nd rfl (Or.inl rfl) (pe_me M_give hr (by omega) pass0 (pv 1) (pa_cons (pe_ix ix_list (pe_fld (pv 0) rfl) (pv 2) (fun _ _ => rfl)) (pa_cons (pv 3) (pa_cons (pe_fld (pv 0) rfl) pa_nil)))))
    (pss_cons (ps_if (pt_cmpR op_notN (pv 5) pe_non (nomark _)) (pss_one (ps_ret (pe_tup (pa_cons pe_non (pa_cons (pe_tup (pa_cons pe_str (pa_cons (pe_ix ix_tup (pv 5) pe_int (fun _ _ => rfl)) (pa_cons (pe_ix ix_tup (pv 5) pe_int (fun _ _ => rfl)) pa_nil)))) pa_nil))))) pss_nil)
    (pss_one (ps_ret (pe_me M_go_on hr (by omega) pass0 (pv 0) (pa_cons (pv 1) (pa_cons (pe_op op_add (pv 2) pe_int) (pa_cons (pv 4) pa_nil)))))))))), ?_⟩
  refine ⟨_, rfl, t, CT, dx, _, _, rfl, TH.obj, T.clT, T.nTr, tlT, ?_⟩
  refine ⟨_, _, rfl, rfl, dx, _, TH.obj, (by show 3 < 1000; decide), ?_⟩
  rw [tpT, show ((tr : Nat) : Int) + 1 = ((tr + 1 : Nat) : Int) by omega]
  have T1 := TH.tick (n' := tr + 1)
  have S1 := S.tick TH (n' := tr + 1)
  have o1 : Out (t :: a.fp) H (upd H t (.ins CT dx (tfs sp q (tr + 1)))) := out_upd List.mem_cons_self
  generalize upd H t (.ins CT dx (tfs sp q (tr + 1))) = H1 at T1 S1 o1 ⊢
  refine ⟨_, rfl, t, CT, dx, _, _, rfl, T1.obj, T.clT, T.nTr, tlT, _, _, rfl, rfl, _, rfl, ifF (by simp; omega) ?_⟩
  obtain ⟨us, hq, dus⟩ := T1.lst
  have ef := J.ef
  have hw : full[ws.length]? = some w0 := by rw [ef, List.getElem?_append_right (Nat.le_refl _)]; simp
  obtain ⟨wv, hwv, dwv⟩ := dus.at (i := ws.length) (p := wd w0) (by rw [List.getElem?_map, hw]; rfl)
  obtain ⟨st, iv, all⟩ := J.step sm hk
  have few : ws.length < 1000 := by have := J.pre.few; rw [ef, List.length_append] at this; omega
  refine ⟨_, rfl, a.p, a.dx, _, rfl, S1.obj, noGi, _, rfl, t, CT, dx, _, _, rfl, T1.obj, T.clT, T.nWo, tlW, _, rfl, q, _, _, _, rfl, rfl, SqL.of hq, atI_nat hwv, _, rfl, _, rfl, t, CT, dx, _, _, rfl, T1.obj, T.clT, T.nS, tlS, a, k, ext k w0 sr, ws, R, W, wv, w0, sr, .ref sp, rfl, S1, dwv, T1.smp, st, few, fun x H2 S2 o2 cv => ?_⟩
  have T2 := T1.out S1 o2
  have oo : Out (t :: a.fp) H H2 := o1.trans (out_cons o2)
  have ci := clash_isSome cv
  refine ⟨_, rfl, rfl, _, rfl, ?_⟩
  cases ec : clash (ext k w0 sr) (ws ++ [w0]) R W sr with
  | some p =>
    rw [ec] at cv
    obtain ⟨pa, pb⟩ := p
    obtain ⟨pc, xs, rfl, hpc, hxs⟩ := (show DV H2 x (.tup [wd pa, wd pb]) from cv).inv
    cases hxs with
    | cons h1 h2 =>
      cases h2 with
      | cons h3 h4 =>
        cases h4
        refine ifT (by simp) ?_
        refine ⟨_, rfl, pc, _, _, _, rfl, rfl, SqT.of hpc, rfl, _, rfl, pc, _, _, _, rfl, rfl, SqT.of hpc, rfl, by show 3 ≤ sizeLine; decide, fun t1 ht1 => ⟨by show 2 ≤ sizeLine; decide, fun t2 ht2 => ?_⟩⟩
        rename_i va vb
        have n12 : t1 ≠ t2 := fun z => by rw [← z, upd_same] at ht2; cases ht2
        have s3 : Same H2 (upd (upd H2 t1 (.tup [.str "bad", va, vb])) t2 (.tup [.non, .ref t1])) := (Same.upd ht1).trans (Same.upd ht2)
        refine kk _ _ (tr + 1) (oo.trans (out_same s3)) (T2.same s3) (by omega) ?_
        unfold gvF
        rw [ec]
        refine ⟨t2, .ref t1, rfl, upd_same, ?_⟩
        rw [Tr.da]
        exact .tup (by rw [upd_ne n12, upd_same]) (.cons (.str _) (.cons (h1.mono (same_tp s3)) (.cons (h3.mono (same_tp s3)) .nil)))
  | none =>
    rw [ec] at cv
    have cv : x = .non := cv
    subst cv
    refine ifF (by simp) ?_
    have J2 := J.next sm hk ec
    refine ⟨_, rfl, t, dx, _, rfl, T2.obj, tnoO, _, rfl, _, rfl, _, _, rfl, rfl, _, rfl, t, dx, sp, q, tr + 1, a, ext k w0 sr, ws ++ [w0], rest, full, R, W, m, ?_, T2, S2, J2, hn, by omega, fun v H3 tr' o3 T3 hle gv => ?_⟩
    · show [_, _, V.int (((ws.length : Nat) : Int) + 1), _] = _
      rw [List.length_append, List.length_singleton, show ((ws.length : Nat) : Int) + 1 = ((ws.length + 1 : Nat) : Int) by omega]
    · refine kk v H3 tr' (oo.trans o3) T3 (by omega) ?_
      unfold gvF
      rw [ec]
      exact gv
end
end Toy

set_option Elab.async false
set_option linter.all false
set_option maxRecDepth 100000
set_option maxHeartbeats 4000000
namespace Toy
open PySem L2
theorem bs_zero {m n f u : Nat} : bs m n f u 0 = 0 := by unfold bs; simp
section
variable {P : Program} {w : World} {K : PySem.W.Frag} {mg : Str → Option Value} {base : Heap} {CR CT CF CL fL cL dL CC fC cC dC : Addr}
abbrev s_t_go_on : Stmt := inClass (top 18) 2
theorem sc_t_go_on : FnScope ["self", "state", "at", "most", "row", "trees", "found", "tree"] ["self", "state", "at", "most"] (defScope s_t_go_on) := ⟨rfl, rfl, rfl, by decide +kernel, rfl, by decide +kernel, by decide +kernel⟩

theorem ok_t_go_on {l n : Nat} (hl : 4 ≤ l) {f : Addr} {fd : FuncData} (F : Fun K "go_on" "RowTries.go_on" s_t_go_on f fd) (T : Tx P K mg CR CT CF CL fL cL dL CC fC cC dC) (M_forced : MetX P w K mg base CX0 1 CR "forced" (spForced CR)) (M_copied : MetX P w K mg base CX0 3 CR "copied" (spCopied CR))
    (M_give : MetX P w K mg base CX0 l CT "give" (spTGive CR CT n)) : FnOk P w K mg base CX0 (l + 1) f fd ["self", "state", "at", "most"] (spGo CR CT (n + 1)) := by
  refine F.ok sc_t_go_on (fun vs H Q E h => ?_) (fun cdv A outer s H vs Q E hr h => ?_)
  · obtain ⟨t, dx, sp, q, tr, a, k, ws, rest, full, R, W, m, rfl, _⟩ := h
    rfl
  obtain ⟨t, dx, sp, q, tr, a, k, ws, rest, full, R, W, m, rfl, TH, S, J, hn, hb, kk⟩ := h
  have hr : Room l _ := hr
  obtain ⟨us, hq, dus⟩ := TH.lst
  have hul := dus.length
  rw [List.length_map] at hul
  have ef := J.ef
  have m0 := J.m0
  have m3 := J.m3
  have few9 := J.pre.few
  refine ⟨_, (pss_cons (ps_if (pt_cmpR op_eq (pv 2) (pe_callB call_len_seq (by rfl) T.z_len b_len (pa_cons (pe_fld (pv 0) rfl) pa_nil)) (nomark _)) (pss_one (ps_ret (pe_tup (pa_cons (pv 1) (pa_cons pe_non pa_nil))))) pss_nil)
    (pss_cons (ps_set (i := 4) sc_t_go_on.nd rfl (Or.inl rfl) (pe_me M_forced hr (by omega) pass0 (pv 1) (pa_cons (pe_ix ix_list (pe_fld (pv 0) rfl) (pv 2) (fun _ _ => rfl)) pa_nil)))
    (pss_cons (ps_if (pt_cmpR op_notN (pv 4) pe_non (nomark _)) (pss_one (ps_ret (pe_me M_give hr (by omega) pass0 (pv 0) (pa_cons (pv 1) (pa_cons (pv 2) (pa_cons (pv 4) (pa_cons (pv 3) pa_nil))))))) pss_nil)
    (pss_cons (ps_set (i := 5) sc_t_go_on.nd rfl (Or.inl rfl) (pe_lst pa_nil))
    (pss_cons (ps_for PassesOwn.never rfl (pi_range1 (by rfl) T.z_range (pa_cons (pe_callB (call_min2 rfl) (by rfl) T.z_min b_min (pa_cons (pe_op op_add (pe_fld (pv 1) rfl) pe_int) (pa_cons (pv 3) pa_nil))) pa_nil)) (pg_name (i := 4) sc_t_go_on.nd rfl (Or.inl rfl)) (pss_cons (ps_asg (pe_me M_give hr (by omega) pass0 (pv 0) (pa_cons (pe_me0 M_copied hr (by omega) pass0 (pv 1)) (pa_cons (pv 2) (pa_cons (pv 4) (pa_cons (pv 3) pa_nil))))) (pg_tup (by rfl) (pgs_cons (pg_name (i := 6) sc_t_go_on.nd rfl (Or.inl rfl)) (pgs_cons (pg_name (i := 7) sc_t_go_on.nd rfl (Or.inl rfl)) pgs_nil))))
    (pss_cons (ps_if (pt_cmpR op_notN (pv 6) pe_non (nomark _)) (pss_one (ps_ret (pe_tup (pa_cons (pv 6) (pa_cons pe_non pa_nil))))) pss_nil)
    (pss_one (ps_expr (pe_bm PySem.F.plainAttrs_list PySem.F.slot_list_append PySem.F.type_list_append mt_append (pv 5) (pa_cons (pv 7) pa_nil)))))))
    (pss_one (ps_ret (pe_tup (pa_cons pe_non (pa_cons (pe_tup (pa_cons pe_str (pa_cons (pe_callTy call_tuple_of (by rfl) T.z_tuple b_tuple (pa_cons (pv 5) pa_nil)) pa_nil))) pa_nil)))))))))), ?_⟩
  refine ⟨_, rfl, _, rfl, t, CT, dx, _, _, rfl, TH.obj, T.clT, T.nWo, tlW, q, _, rfl, .inl (SqL.of hq), rfl, _, rfl, ?_⟩
  rw [hul, ef, List.length_append]
  cases rest with
  | nil =>
    refine ifT (by simp) ?_
    refine ⟨_, rfl, by show 2 ≤ sizeLine; decide, fun p hp => ?_⟩
    have s1 : Same H (upd H p (.tup [.ref a.p, .non])) := Same.upd hp
    have ew : full = ws := by rw [ef, List.append_nil]
    refine kk _ _ tr (out_same s1) (TH.same s1) (by omega) ?_
    rw [goF]
    refine ⟨p, a, rfl, upd_same, ?_⟩
    rw [ew]
    exact S.same s1
  | cons w0 rest =>
    refine ifF (by simp; omega) ?_
    obtain ⟨n, rfl⟩ : ∃ n', n = n' + 1 := ⟨n - 1, by rw [List.length_cons] at hn; omega⟩
    have hn' : rest.length ≤ n := by rw [List.length_cons] at hn; omega
    rw [List.length_cons] at hb kk
    have hw : full[ws.length]? = some w0 := by rw [ef, List.getElem?_append_right (Nat.le_refl _)]; simp
    obtain ⟨wv, hwv, dwv⟩ := dus.at (i := ws.length) (p := wd w0) (by rw [List.getElem?_map, hw]; rfl)
    refine ⟨_, rfl, a.p, a.dx, _, rfl, S.obj, noF, _, rfl, t, CT, dx, _, _, rfl, TH.obj, T.clT, T.nWo, tlW, _, rfl, q, _, _, _, rfl, rfl, SqL.of hq, atI_nat hwv, a, k, ws, R, W, wv, w0, rfl, S, dwv, J.pre.pre _ _ _ ef, fun H1 s1 => ?_⟩
    have T1 := TH.same s1
    have S1 := S.same s1
    cases hk : forcedN k w0 with
    | some sr =>
      have sm := J.forced_lt hk
      have bf := J.bud_forced hk
      refine ⟨_, rfl, rfl, _, rfl, ifT (by simp [optV]) ?_⟩
      refine ⟨_, rfl, t, dx, _, rfl, T1.obj, tnoG, _, rfl, _, rfl, _, rfl, _, rfl, t, dx, sp, q, tr, a, k, ws, w0, rest, full, R, W, m, sr, rfl, T1, S1, J, sm, .inr hk, hn', by omega, fun v H2 tr' o2 T2 hle gv => ?_⟩
      refine kk v H2 tr' ((out_same s1).trans o2) T2 (by omega) ?_
      rw [goF_some hk]
      exact gv
    | none =>
      refine ⟨_, rfl, rfl, _, rfl, ifF (by simp [optV]) ?_⟩
      refine ⟨by show 0 ≤ sizeLine; decide, fun D hD => ?_⟩
      have s2 : Same H1 (upd H1 D (.lst [])) := Same.upd hD
      have hD2 : upd H1 D (.lst []) D = some (.lst []) := upd_same
      have s12 := s1.trans s2
      have HD : H D = none := by
        cases c : H D with
        | none => rfl
        | some o => rw [s1 _ _ c] at hD; cases hD
      have T2 := TH.same s12
      have S2 := S.same s12
      generalize upd H1 D (.lst []) = H2 at s2 hD2 s12 T2 S2 ⊢
      refine ⟨_, rfl, a.p, CR, a.dx, _, _, rfl, S2.obj, T.cl, T.nU, lkU, _, _, rfl, rfl, _, rfl, _, _, rfl, ?_⟩
      have em : (if ((m : Nat) : Int) < ((usd k ws : Nat) : Int) + 1 then ((m : Nat) : Int) else ((usd k ws : Nat) : Int) + 1) = ((min (usd k ws + 1) m : Nat) : Int) := by split <;> omega
      rw [em]
      refine ⟨_, rfl, by omega, by omega, ?_⟩
      obtain ⟨N, hN⟩ : ∃ N, N = min (usd k ws + 1) m := ⟨_, rfl⟩
      rw [← hN]
      have Dt : D ≠ t := fun z => by rw [z, TH.obj] at HD; cases HD
      have tq : ∀ {H' : Hp}, Out [t] H H' → Tups H H' := fun {H'} o b xs e => o b _ (fun z => by rw [List.mem_singleton.mp z, TH.obj] at e; cases e) e
      have sq : ∀ {H' : Hp}, Out [t] H H' → SI CR H' a k ws R W := fun {H'} o => S.move (fun b hb u e => o b u (fun z => TH.nfp S (by rw [← List.mem_singleton.mp z]; exact hb)) e) (tq o)
      have go : goF R W m (w0 :: rest) ws k = firstF (gvF (goF R W m rest) R W ws w0 k) (List.range N) [] := by rw [goF_none hk, hN]
      refine for_range (lo := 0) (n := ((N : Nat) : Int).toNat) (fun i σ H' => ∃ (tri : Nat) (ts : List Tr) (us : List V) (g4 g6 g7 : Option V), σ = [some (.ref t), some (.ref a.p), some (.int ((ws.length : Nat) : Int)), some (.int ((m : Nat) : Int)), g4, some (.ref D), g6, g7] ∧ Out [t] H H' ∧ TO CT H' t dx sp q tri R W full ∧ tri ≤ tr + bs m rest.length (free m k - 1) (usd k ws) i ∧
        H' D = some (.lst us) ∧ DVs H' us (ts.map Tr.da) ∧ ts.length = i ∧ firstF (gvF (goF R W m rest) R W ws w0 k) (List.range N) [] = firstF (gvF (goF R W m rest) R W ws w0 k) ((List.range N).drop i) ts)
        ⟨tr, [], [], _, _, _, rfl, out_same s12, T2, by omega, hD2, .nil, rfl, rfl⟩ (fun i σ H' hi h => ?_) (fun σ H' h => ?_)
      · obtain ⟨tri, ts, us2, g4, g6, g7, rfl, o3, T3, le3, h3, d3, l3, f3⟩ := h
        rw [Int.toNat_natCast] at hi
        have ei : (0 : Int) + ((i : Nat) : Int) = ((i : Nat) : Int) := by omega
        rw [ei]
        have S3 := sq o3
        have hi2 : i < min (usd k ws + 1) m := by omega
        obtain ⟨b1, b2⟩ := J.bud_way hk hi2
        refine ⟨_, rfl, t, dx, _, rfl, T3.obj, tnoG, _, rfl, a.p, a.dx, _, rfl, S3.obj, noC, a, k, ws, R, W, rfl, S3, fun a2 H4 s4 S4 fr4 => ?_⟩
        have T4 := T3.same s4
        refine ⟨_, rfl, _, rfl, _, rfl, t, dx, sp, q, tri, a2, k, ws, w0, rest, full, R, W, m, i, rfl, T4, S4, J, min_lt hi2, .inl hk, hn', by omega, fun v H5 tr' o5 T5 hle gv => ?_⟩
        have oF : ∀ b u, H' b = some u → b ≠ t → H5 b = some u := fun b u e nt => o5 b u (fun z => by
          rcases List.mem_cons.mp z with z | z
          · exact nt z
          · rw [fr4 b z] at e; cases e) (s4 _ _ e)
        have o45 : Out [t] H H5 := fun b u nb e => oF b u (o3 b u nb e) (fun z => nb (by rw [z]; simp))
        have tp45 : Tups H' H5 := fun b xs e => oF b _ e (fun z => by rw [z, T3.obj] at e; cases e)
        have dr : (List.range N).drop i = i :: (List.range N).drop (i + 1) := by
          rw [List.drop_eq_getElem_cons (by rw [List.length_range]; exact hi), List.getElem_range]
        cases eg : gvF (goF R W m rest) R W ws w0 k i with
        | found k' =>
          rw [eg] at gv
          obtain ⟨b, a', rfl, hb', S5⟩ := gv
          refine ⟨b, _, rfl, SqT.of hb', rfl, _, _, rfl, _, _, rfl, rfl, ?_⟩
          refine ⟨_, rfl, rfl, _, rfl, ifT (by simp) ?_⟩
          refine ⟨_, rfl, by show 2 ≤ sizeLine; decide, fun p hp => ?_⟩
          have s6 : Same H5 (upd H5 p (.tup [.ref a'.p, .non])) := Same.upd hp
          refine kk _ _ tr' (fun b u nb e => s6 _ _ (o45 b u (fun z => nb (by rw [List.mem_singleton.mp z]; exact List.mem_cons_self)) e)) (T5.same s6) (by omega) ?_
          rw [go, f3, dr, firstF, eg]
          exact ⟨p, a', rfl, upd_same, S5.same s6⟩
        | tree tt =>
          rw [eg] at gv
          obtain ⟨b, u, rfl, hb', dt⟩ := gv
          refine ⟨b, _, rfl, SqT.of hb', rfl, _, _, rfl, _, _, rfl, rfl, ?_⟩
          refine ⟨_, rfl, rfl, _, rfl, ifF (by simp) ?_⟩
          have h5 := oF _ _ h3 Dt
          have dl := d3.length
          rw [List.length_map] at dl
          have tp : Tups H5 (upd H5 D (.lst (us2 ++ [u]))) := tups_upd fun xs e => by rw [h5] at e; cases e
          refine ⟨_, rfl, .inl ⟨rfl, _, SqL.of h5⟩, _, rfl, D, us2, _, rfl, rfl, h5, small1000 (by omega), tr', ts ++ [tt], us2 ++ [u], _, _, _, rfl, fun b2 u2 nb e => ?_, ?_, by omega, upd_same, ?_, by rw [List.length_append, l3]; rfl, ?_⟩
          · rw [upd_ne (ne_of_none e HD)]; exact o45 b2 u2 nb e
          · obtain ⟨us5, q1, q2⟩ := T5.lst
            have qD : q ≠ D := fun z => by
              have := s12 _ _ hq
              rw [z, hD2] at this
              have e0 : ([] : List V) = us := HO.lst.inj (Option.some.inj this)
              rw [← e0] at hul
              rw [ef] at hul
              simp at hul
            exact ⟨by rw [upd_ne (Ne.symm Dt)]; exact T5.obj, T5.smp.mono tp, us5, by rw [upd_ne qD]; exact q1, q2.mono tp⟩
          · rw [List.map_append]
            exact ((d3.mono tp45).mono tp).snoc (dt.mono tp)
          · rw [f3, dr, firstF, eg]
      · obtain ⟨tri, ts, us2, g4, g6, g7, rfl, o3, T3, le3, h3, d3, l3, f3⟩ := h
        rw [Int.toNat_natCast] at l3 le3 f3
        refine ⟨_, rfl, D, _, rfl, .inl ⟨SqL.of h3, fun t1 ht1 => ⟨by show 2 ≤ sizeLine; decide, fun t2 ht2 => ⟨by show 2 ≤ sizeLine; decide, fun t3 ht3 => ?_⟩⟩⟩⟩
        have n12 : t1 ≠ t2 := fun z => by rw [← z, upd_same] at ht2; cases ht2
        have n13 : t1 ≠ t3 := fun z => by rw [← z, upd_ne n12, upd_same] at ht3; cases ht3
        have n23 : t2 ≠ t3 := fun z => by rw [← z, upd_same] at ht3; cases ht3
        have s6 : Same H' (upd (upd (upd H' t1 (.tup us2)) t2 (.tup [.str "try", .ref t1])) t3 (.tup [.non, .ref t2])) := ((Same.upd ht1).trans (Same.upd ht2)).trans (Same.upd ht3)
        have le4 : bs m rest.length (free m k - 1) (usd k ws) N ≤ bud m (rest.length + 1) ws k := by
          have := J.bud_way hk (i := N - 1) (by omega)
          rw [show N - 1 + 1 = N by omega] at this
          exact this.2
        refine kk _ _ tri (fun b u nb e => s6 _ _ (o3 b u (fun z => nb (by rw [List.mem_singleton.mp z]; exact List.mem_cons_self)) e)) (T3.same s6) (by omega) ?_
        rw [go, f3, List.drop_of_length_le (by rw [List.length_range]; exact Nat.le_refl _), firstF]
        refine ⟨t3, .ref t2, rfl, upd_same, ?_⟩
        rw [Tr.da, das_map]
        exact .tup (by rw [upd_ne n23, upd_same]) (.cons (.str _) (.cons (.tup (by rw [upd_ne n13, upd_ne n12, upd_same]) (d3.mono (same_tp s6))) .nil))
end
end Toy

set_option Elab.async false
set_option linter.all false
set_option maxRecDepth 100000
set_option maxHeartbeats 4000000
namespace Toy
open PySem L2
def spTInit (CT : Addr) : Sp := fun vs H Q _ => ∃ p dx vr vw R W, vs = [.ref p, vr, vw] ∧ H p = some (.ins CT dx []) ∧ DV H vr (.tup (R.map wd)) ∧ DV H vw (.tup (W.map wd)) ∧ ((R ++ W).map List.length).sum ≤ 900 ∧ R.length + W.length ≤ 900 ∧
  ∀ full sp q H', SortedW full → (∀ w, w ∈ full ↔ Beg (R ++ W) w) → TO CT H' p dx sp q 0 R W full → Keep p H H' → Q .non H'
/-- the first right sample that is a wrong one, too -/
def fstIn (R W : List (List Nat)) : Option (List Nat) := R.find? fun w => decide (w ∈ W)
theorem fstIn_at {R W : List (List Nat)} {i : Nat} {w : List Nat} (h1 : ∀ j (hj : j < R.length), j < i → R[j] ∉ W) (h2 : R[i]? = some w) (h3 : w ∈ W) : fstIn R W = some w := by
  obtain ⟨hi, e⟩ := List.getElem?_eq_some_iff.mp h2
  unfold fstIn
  rw [List.find?_eq_some_iff_getElem]
  refine ⟨decide_eq_true h3, i, hi, e, fun j hj => ?_⟩
  have := h1 j (by omega) hj
  simpa using this
theorem fstIn_none {R W : List (List Nat)} (h1 : ∀ j (hj : j < R.length), R[j] ∉ W) : fstIn R W = none := by
  unfold fstIn
  rw [List.find?_eq_none]
  intro x hx
  obtain ⟨j, hj, rfl⟩ := List.getElem_of_mem hx
  simpa using h1 j hj
def spFewest (CL CC : Addr) : Sp := fun vs H Q E => ∃ vr vw R W most, vs = [.int 2, vr, vw, .int ((most : Nat) : Int)] ∧ DV H vr (.tup (R.map wd)) ∧ DV H vw (.tup (W.map wd)) ∧ Bin R ∧ Bin W ∧ ((R ++ W).map List.length).sum ≤ 900 ∧ R.length + W.length ≤ 900 ∧ 1 ≤ most ∧ most ≤ 3 ∧
  (∀ w, fstIn R W = some w → ∀ v d H', DV H' v (wd w) → Same H H' → H d = none → H' d = some (.xd [(("sample" : Str), v)]) → E (.ref CC) (some d) H') ∧
  (fstIn R W = none → ∀ full, SortedW full → (∀ w, w ∈ full ↔ Beg (R ++ W) w) →
    (24 < full.length ∧ ∀ d H', Same H H' → H d = none → H' d = some (.xd [(("what" : Str), .str "samples")]) → E (.ref CL) (some d) H') ∨
    (full.length ≤ 24 ∧ costN most full.length ≤ 3000 ∧ ∀ v H', Same H H' → DV H' v (fewF R W full most).da → Q v H'))
theorem costN_mono {n : Nat} : ∀ {j i : Nat}, i ≤ j → costN i n ≤ costN j n
  | 0, i, h => by
    obtain rfl : i = 0 := by omega
    exact Nat.le_refl _
  | j + 1, i, h => by
    by_cases c : i = j + 1
    · subst c; exact Nat.le_refl _
    · have := costN_mono (n := n) (j := j) (i := i) (by omega)
      rw [costN]
      omega
theorem noFR {g l u r w : V} : List.lookup ("full_rows" : Str) (rfs g l u r w) = none := noM (by decide +kernel) (by decide +kernel) (by decide +kernel) (by decide +kernel) (by decide +kernel)
section
variable {P : Program} {w : World} {K : PySem.W.Frag} {mg : Str → Option Value} {base : Heap} {CR CT CF CL fL cL dL CC fC cC dC : Addr}
abbrev s_t_init : Stmt := inClass (top 18) 0
theorem sc_t_init : FnScope ["self", "right", "wrong"] ["self", "right", "wrong"] (defScope s_t_init) := ⟨rfl, rfl, rfl, by decide +kernel, rfl, by decide +kernel, by decide +kernel⟩

theorem ok_t_init {f : Addr} {fd : FuncData} (F : Fun K "__init__" "RowTries.__init__" s_t_init f fd) (T : Tx P K mg CR CT CF CL fL cL dL CC fC cC dC) (C_beginnings_of : CalX P w K mg base CX0 2 "beginnings_of" spBeg) : FnOk P w K mg base CX0 3 f fd ["self", "right", "wrong"] (spTInit CT) := by
  refine F.ok sc_t_init (fun vs H Q E h => ?_) (fun cdv A outer s H vs Q E hr h => ?_)
  · obtain ⟨p, dx, vr, vw, R, W, rfl, _⟩ := h
    rfl
  obtain ⟨p, dx, vr, vw, R, W, rfl, hp, hR, hW, hsum, cnt, kk⟩ := h
  obtain ⟨cr, rs, rfl, hcr, hrs⟩ := hR.inv
  obtain ⟨cw, us, rfl, hcw, hus⟩ := hW.inv
  have hrl := hrs.length
  have hul := hus.length
  rw [List.length_map] at hrl hul
  refine ⟨_, (pss_cons (ps_fld (pv 0) (pe_tup (pa_cons (pv 1) (pa_cons (pv 2) pa_nil))) rfl)
    (pss_cons (ps_fld (pv 0) (pe_u C_beginnings_of hr (by omega) pass0 (pa_cons (pe_op op_catB (pv 1) (pv 2)) pa_nil)) rfl)
    (pss_one (ps_fld (pv 0) pe_int rfl)))), ?_⟩
  refine ⟨_, rfl, _, rfl, by show 2 ≤ sizeLine; decide, fun sm hsm => ?_⟩
  have smp : sm ≠ p := fun z => by rw [z, hp] at hsm; cases hsm
  refine ⟨_, rfl, p, CT, dx, _, rfl, by rw [upd_ne (Ne.symm smp)]; exact hp, T.clT, T.nS, (by show 0 < 1000; decide), ?_⟩
  rw [ti1]
  have K1 : Keep p H (upd (upd H sm (.tup [.ref cr, .ref cw])) p (.ins CT dx [tS (.ref sm)])) := fun b o nb e => by rw [upd_ne nb, upd_ne (ne_of_none e hsm)]; exact e
  have h1 : upd (upd H sm (.tup [.ref cr, .ref cw])) p (.ins CT dx [tS (.ref sm)]) p = some (.ins CT dx [tS (.ref sm)]) := upd_same
  have g1 : upd (upd H sm (.tup [.ref cr, .ref cw])) p (.ins CT dx [tS (.ref sm)]) sm = some (.tup [.ref cr, .ref cw]) := by rw [upd_ne smp, upd_same]
  generalize upd (upd H sm (.tup [.ref cr, .ref cw])) p (.ins CT dx [tS (.ref sm)]) = H1 at K1 h1 g1 ⊢
  have tp1 : Tups H H1 := fun b xs e => K1 b _ (fun z => by rw [z, hp] at e; cases e) e
  refine ⟨_, rfl, _, rfl, cr, cw, rs, us, rfl, rfl, tp1 _ _ hcr, tp1 _ _ hcw, Nat.le_of_lt (small1000 (by omega)), fun c H2 s2 hc => ?_⟩
  have tp2 : Tups H H2 := tp1.trans (same_tp s2)
  refine ⟨c, _, R ++ W, rfl, hc, by rw [List.map_append]; exact (hrs.mono tp2).append (hus.mono tp2), hsum, fun q H3 us3 full s3 hq dvs so me => ?_⟩
  have s13 := s2.trans s3
  refine ⟨_, rfl, p, CT, dx, _, rfl, s13 _ _ h1, T.clT, T.nWo, (by show 1 < 1000; decide), ?_⟩
  rw [ti2]
  refine ⟨_, rfl, p, CT, dx, _, rfl, upd_same, T.clT, T.nTr, (by show 2 < 1000; decide), ?_⟩
  rw [ti3]
  have qp : q ≠ p := ne_of hq (s13 _ _ h1) (fun z => nomatch z)
  have tp4 : Tups H3 (upd (upd H3 p (.ins CT dx [tS (.ref sm), tW (.ref q)])) p (.ins CT dx [tS (.ref sm), tW (.ref q), tT (.int 0)])) := fun b xs e => by
    have nb : b ≠ p := fun z => by rw [z, s13 _ _ h1] at e; cases e
    rw [upd_ne nb, upd_ne nb]; exact e
  have tpA : Tups H _ := (tp1.trans (same_tp s13)).trans tp4
  refine kk full sm q _ so me ⟨upd_same, .tup (tp4 _ _ (s13 _ _ g1)) (.cons ((DV.tup hcr hrs).mono tpA) (.cons ((DV.tup hcw hus).mono tpA) .nil)), us3, by rw [upd_ne qp, upd_ne qp]; exact hq, dvs.mono tp4⟩ (fun b o nb e => ?_)
  rw [upd_ne nb, upd_ne nb]
  exact s13 _ _ (K1 b o nb e)
abbrev s_fewest : Stmt := top 19
theorem sc_fewest : FnScope ["base", "right", "wrong", "most", "file", "search", "barred", "many", "found", "tree"] ["base", "right", "wrong", "most"] (defScope s_fewest) := ⟨rfl, rfl, rfl, by decide +kernel, rfl, by decide +kernel, by decide +kernel⟩

theorem ok_fewest {l : Nat} (hl : 5 ≤ l) {f : Addr} {fd : FuncData} (F : Fun K "fewest" "fewest" s_fewest f fd) (T : Tx P K mg CR CT CF CL fL cL dL CC fC cC dC) (N_RowTries : MakX P w K mg base CX0 3 "RowTries" CT (spTInit CT)) (N_RowState : MakX P w K mg base CX0 1 "RowState" CR (spInit CR))
    (M_go_on : MetX P w K mg base CX0 l CT "go_on" (spGo CR CT 25)) (M_full_rows : MetX P w K mg base CX0 1 CR "full_rows" (spRowsF CR)) : FnOk P w K mg base (L2.CX P w) (l + 1) f fd ["base", "right", "wrong", "most"] (spFewest CL CC) := by
  refine F.okX sc_fewest (fun vs H Q E h => ?_) (fun cdv A outer s H vs Q E hr h => ?_)
  · obtain ⟨vr, vw, R, W, most, rfl, _⟩ := h
    rfl
  obtain ⟨vr, vw, R, W, most, rfl, hR, hW, bR, bW, hsum, cnt, mo1, mo3, kC, kk⟩ := h
  have hr : Room l _ := hr
  obtain ⟨cr, rs, rfl, hcr, hrs⟩ := hR.inv
  obtain ⟨cw, us, rfl, hcw, hus⟩ := hW.inv
  have hrl := hrs.length
  rw [List.length_map] at hrl
  refine ⟨_, (pss_cons (ps_for (passes_of rfl) rfl (pi_tup (pv 1)) (pg_name (i := 4) sc_fewest.nd rfl (Or.inl rfl)) (pss_one (ps_if (pt_cmpR (op_inA (hu_a hr)) (pv 4) (pv 2) rfl) (pss_one (Sup_C.ps_raise rfl T.x_Clash T.g_Clash hr (takes_of rfl rfl rfl rfl) (pa_cons (pv 4) pa_nil))) pss_nil)))
    (pss_cons (ps_set (i := 5) sc_fewest.nd rfl (Or.inl rfl) (pe_n N_RowTries hr (by omega) pass0 (pa_cons (pv 1) (pa_cons (pv 2) pa_nil))))
    (pss_cons (ps_if (pt_cmpR op_gt (pe_callB call_len_seq (by rfl) T.z_len b_len (pa_cons (pe_fld (pv 5) rfl) pa_nil)) (pe_gi T.g_MOST_BEGINNINGS) (nomark _)) (pss_one (Sup_L.ps_raise rfl T.x_TooLarge T.g_TooLarge hr (takes_of rfl rfl rfl rfl) (pa_cons pe_str pa_nil))) pss_nil)
    (pss_cons (ps_set (i := 6) sc_fewest.nd rfl (Or.inl rfl) pe_non)
    (pss_cons (ps_for (passes_of rfl) rfl (pi_range2 (by rfl) T.z_range (pa_cons pe_int (pa_cons (pe_op op_add (pv 3) pe_int) pa_nil))) (pg_name (i := 7) sc_fewest.nd rfl (Or.inl rfl)) (pss_cons (ps_asg (pe_me M_go_on hr (by omega) pass0 (pv 5) (pa_cons (pe_n0 N_RowState hr (by omega) pass0) (pa_cons pe_int (pa_cons (pv 7) pa_nil)))) (pg_tup (by rfl) (pgs_cons (pg_name (i := 8) sc_fewest.nd rfl (Or.inl rfl)) (pgs_cons (pg_name (i := 9) sc_fewest.nd rfl (Or.inl rfl)) pgs_nil))))
    (pss_cons (ps_if (pt_cmpR op_notN (pv 8) pe_non (nomark _)) (pss_one (ps_ret (pe_tup (pa_cons pe_str (pa_cons (pe_me M_full_rows hr (by omega) pass0 (pv 8) (pa_cons (pv 0) pa_nil)) (pa_cons (pv 6) pa_nil)))))) pss_nil)
    (pss_one (ps_set (i := 6) sc_fewest.nd rfl (Or.inl rfl) (pv 9))))))
    (pss_one (ps_ret (pe_tup (pa_cons pe_str (pa_cons (pv 6) pa_nil)))))))))), ?_⟩
  refine ⟨_, rfl, cr, rfl, ⟨_, SqT.of hcr⟩, for_tup (K := K) (a := cr) (xs := rs) (fun i σ H' => H' = H ∧ (∃ g4, σ = [some (.int 2), some (.ref cr), some (.ref cw), some (.int ((most : Nat) : Int)), g4, none, none, none, none, none]) ∧ ∀ j (hj : j < R.length), j < i → R[j] ∉ W) ⟨rfl, ⟨_, rfl⟩, fun j hj z => absurd z (Nat.not_lt_zero _)⟩ (fun i σ H' _ h => by rw [h.1]; exact SqT.of hcr) (fun i x σ H' hx h => ?_) (fun σ H' h => ?_)⟩
  · obtain ⟨rfl, ⟨g4, rfl⟩, done⟩ := h
    obtain ⟨pd, hpd, dx⟩ := hrs.get hx
    rw [List.getElem?_map] at hpd
    obtain ⟨w0, hw0, rfl⟩ := Option.map_eq_some_iff.mp hpd
    refine ⟨_, rfl, _, rfl, wd w0, cw, us, _, dx, rfl, .inl hcw, hus, Nat.le_trans (wd_deep _) (by decide), fun b hb => ⟨_, rfl, ?_⟩⟩
    rw [mem_wd] at hb
    refine ite2 (fun c => ?_) (fun c => ?_)
    · refine ⟨_, rfl, _, rfl, fun dd hdd => ?_⟩
      exact kC w0 (fstIn_at done hw0 (hb.mp c)) x dd _ (dx.mono (tups_new hdd)) (Same.upd hdd) hdd upd_same
    · refine ⟨rfl, ⟨_, rfl⟩, fun j hj lt => ?_⟩
      obtain ⟨hi, ew⟩ := List.getElem?_eq_some_iff.mp hw0
      by_cases e : j = i
      · subst e; rw [ew]; exact fun z => c (hb.mpr z)
      · exact done j hj (by omega)
  · obtain ⟨rfl, ⟨g4, rfl⟩, done⟩ := h
    have kk := kk (fstIn_none fun j hj => done j hj (by omega))
    refine ⟨_, rfl, _, rfl, fun t dx ht hdx hne => ⟨t, dx, _, _, R, W, rfl, upd_same, ?_, ?_, hsum, cnt, fun full sp q H1 so me TH K1 => ⟨rfl, ?_⟩⟩⟩
    · exact hR.mono fun b xs e => by rw [upd_ne (ne_of_none e ht), upd_ne (ne_of_none e hdx)]; exact e
    · exact hW.mono fun b xs e => by rw [upd_ne (ne_of_none e ht), upd_ne (ne_of_none e hdx)]; exact e
    have s1 : Same H' H1 := fun b o e => K1 b o (ne_of_none e ht) (by rw [upd_ne (ne_of_none e ht), upd_ne (ne_of_none e hdx)]; exact e)
    obtain ⟨us1, hq, dvs⟩ := TH.lst
    have ul := dvs.length
    rw [List.length_map] at ul
    refine ⟨_, rfl, t, CT, dx, _, _, rfl, TH.obj, T.clT, T.nWo, tlW, q, _, rfl, .inl (SqL.of hq), _, _, rfl, rfl, _, rfl, ?_⟩
    rw [ul]
    rcases kk full so me with ⟨big, kL⟩ | ⟨few, cost, kQ⟩
    · refine ifT (by simp; omega) ?_
      refine ⟨_, rfl, fun dd hdd => ?_⟩
      have hdd0 : H' dd = none := by
        cases c : H' dd with
        | none => rfl
        | some o => rw [s1 _ _ c] at hdd; cases hdd
      exact kL dd _ (s1.trans (Same.upd hdd)) hdd0 upd_same
    · refine ifF (by simp; omega) ?_
      have n0 : 0 < full.length := List.length_pos_of_mem ((me []).mpr (.inl rfl))
      have pf : Pre full := beg_pre so me (by omega)
      have bi : Bin full := fun w hw c hc => by
        rcases (me w).mp hw with rfl | ⟨x, hx, p⟩
        · cases hc
        · exact (List.mem_append.mp hx).elim (fun z => bR x z c (p.subset hc)) fun z => bW x z c (p.subset hc)
      refine ⟨_, rfl, _, _, rfl, rfl, 1, _, rfl, ⟨by omega, by omega, by omega, by omega⟩, ?_⟩
      refine for_range (lo := 1) (n := (((most : Nat) : Int) + 1 - 1).toNat) (fun i σ H2 => ∃ (tr : Nat) (b : Tr) (vb : V) (g7 g8 g9 : Option V), σ = [some (.int 2), some (.ref cr), some (.ref cw), some (.int ((most : Nat) : Int)), g4, some (.ref t), some vb, g7, g8, g9] ∧
        Same H' H2 ∧ TO CT H2 t dx sp q tr R W full ∧ tr ≤ costN i full.length ∧ DV H2 vb b.da ∧ fewF R W full most = fewL R W full (List.range' (i + 1) (most - i)) b) ⟨0, .non, .non, _, _, _, rfl, s1, TH, Nat.zero_le _, by rw [Tr.da]; exact .non, rfl⟩ (fun i σ H2 hi h => ?_) (fun σ H2 h => ?_)
      · obtain ⟨tr, b, vb, g7, g8, g9, rfl, s2, T2, le2, db, ef2⟩ := h
        have hi : i < most := by omega
        have J : Jv R W full (i + 1) [] full k0 := ⟨rfl, pf, bi, me, by omega, by omega, fun x hx => (nomatch hx.2.2.1), .inl ⟨rfl, rfl⟩⟩
        have eb : costN (i + 1) full.length = costN i full.length + bud (i + 1) full.length [] k0 := rfl
        have cm := costN_mono (n := full.length) (show i + 1 ≤ most by omega)
        refine ⟨_, rfl, t, dx, _, rfl, T2.obj, tnoO, fun p2 dx2 hp2 hdx2 hne2 => ⟨p2, dx2, rfl, upd_same, fun a' H4 ea SI4 K4 fr4 => ⟨rfl, _, rfl, ?_⟩⟩⟩
        have s4 : Same H2 H4 := fun b o e => K4 b o (ne_of_none e hp2) (by rw [upd_ne (ne_of_none e hp2), upd_ne (ne_of_none e hdx2)]; exact e)
        subst ea
        have T4 := T2.same s4
        refine ⟨t, dx, sp, q, tr, a', k0, [], full, full, R, W, i + 1, ?_, T4, SI4 R W, J, by omega, by omega, fun v H5 tr' o5 T5 hle gv => ?_⟩
        · show [_, _, V.int 0, V.int (1 + ((i : Nat) : Int))] = _
          rw [show (1 : Int) + ((i : Nat) : Int) = ((i + 1 : Nat) : Int) by omega]
          rfl
        have ht2 : ∀ b o, H' b = some o → b ≠ t := fun b o e => ne_of_none e ht
        have s5 : Same H' H5 := fun b o e => by
          have e2 := s2 _ _ e
          refine o5 b o (fun z => ?_) (s4 _ _ e2)
          rcases List.mem_cons.mp z with z | z
          · exact ht2 b o e z
          · rcases fr4 b z with y | y
            · rw [y, hp2] at e2; cases e2
            · by_cases c : b = a'.p
              · rw [c, hp2] at e2; cases e2
              · rw [upd_ne c] at y
                by_cases d : b = dx2
                · rw [d, hdx2] at e2; cases e2
                · rw [upd_ne d, e2] at y; cases y
        have tp5 : Tups H2 H5 := fun b xs e => o5 b _ (fun z => by
          rcases List.mem_cons.mp z with z | z
          · rw [z, T2.obj] at e; cases e
          · rcases fr4 b z with y | y
            · rw [y, hp2] at e; cases e
            · by_cases c : b = a'.p
              · rw [c, hp2] at e; cases e
              · rw [upd_ne c] at y
                by_cases d : b = dx2
                · rw [d, hdx2] at e; cases e
                · rw [upd_ne d, e] at y; cases y) (s4 _ _ e)
        have rg : List.range' (i + 1) (most - i) = (i + 1) :: List.range' (i + 1 + 1) (most - (i + 1)) := by
          rw [show most - i = (most - (i + 1)) + 1 by omega, List.range'_succ]
        rw [rg, fewL] at ef2
        obtain ⟨rest0, _, iv0, rs0⟩ := root_go (R := R) (W := W) (m := i + 1) pf bi me (by omega)
        cases eg : goF R W (i + 1) full [] k0 with
        | found k' =>
          rw [eg] at gv ef2 rs0
          obtain ⟨b2, a2, rfl, hb2, S5⟩ := gv
          have um := rs0.2.1.um
          refine ⟨b2, _, rfl, SqT.of hb2, rfl, _, _, rfl, _, _, rfl, rfl, ?_⟩
          refine ⟨_, rfl, rfl, _, rfl, ifT (by simp) ?_⟩
          refine ⟨_, rfl, a2.p, a2.dx, _, rfl, S5.obj, noFR, _, rfl, a2, k', full, R, W, rfl, S5, by omega, fun vr H6 s6 dr => ⟨_, rfl, by show 3 ≤ sizeLine; decide, fun p hp => ?_⟩⟩
          refine kQ _ _ ((s5.trans s6).trans (Same.upd hp)) ?_
          rw [ef2]
          exact .tup upd_same (.cons (.str _) (.cons (dr.mono (tups_new hp)) (.cons (((db.mono tp5).mono (same_tp s6)).mono (tups_new hp)) .nil)))
        | tree tt =>
          rw [eg] at gv ef2
          obtain ⟨b2, u, rfl, hb2, dt⟩ := gv
          refine ⟨b2, _, rfl, SqT.of hb2, rfl, _, _, rfl, _, _, rfl, rfl, ?_⟩
          refine ⟨_, rfl, rfl, _, rfl, ifF (by simp) ?_⟩
          exact ⟨_, rfl, tr', tt, u, _, _, _, rfl, s5, T5, by omega, dt, ef2⟩
      · obtain ⟨tr, b, vb, g7, g8, g9, rfl, s2, T2, le2, db, ef2⟩ := h
        refine ⟨_, rfl, by show 2 ≤ sizeLine; decide, fun p hp => ?_⟩
        refine kQ _ _ (s2.trans (Same.upd hp)) ?_
        rw [ef2, show most - (((most : Nat) : Int) + 1 - 1).toNat = 0 by omega]
        exact .tup upd_same (.cons (.str _) (.cons (db.mono (tups_new hp)) .nil))
end
end Toy

set_option Elab.async false
set_option linter.all false
set_option maxRecDepth 100000
set_option maxHeartbeats 4000000
namespace Toy
open PySem L2
theorem smp_lc {K : PySem.W.Frag} {σ : St} {H : Hp} {cr : Addr} {rs : List V} {R : List (List Nat)} (lab i j : Nat) {Q : VK} (hj : σ[j]? = some (some (.ref cr))) (hcr : H cr = some (.tup rs)) (hrs : DVs H rs (R.map wd)) (hl : R.length ≤ 900) (hi : i < σ.length)
    (k : ∀ D H2 us, H D = none → Same H H2 → H2 D = some (.lst us) → DVs H2 us ((R.map fun w => (w, lab)).map smD) → Q (.ref D) H2) : tLc (iTup K (tVar j)) (gName i) tYes (tTup (tCons (tVar i) (tCons (tC (.int ((lab : Nat) : Int))) tNil))) [i] σ H Q := by
  have hrl := hrs.length
  rw [List.length_map] at hrl
  refine ⟨_, hj, cr, rfl, ⟨_, SqT.of hcr⟩, fun D hD => ?_⟩
  refine lc_tup (K := K) (a := cr) (xs := rs) (fun n H2 => Same H H2 ∧ ∃ us, H2 D = some (.lst us) ∧ DVs H2 us (((R.take n).map fun w => (w, lab)).map smD)) ⟨Same.upd hD, [], upd_same, .nil⟩ (fun _ H2 _ h => SqT.of (h.1 _ _ hcr)) (fun n x H2 hx h => ?_) (fun H2 h => ?_)
  · obtain ⟨s2, us, e2, d2⟩ := h
    obtain ⟨pd, hpd, dx⟩ := hrs.get hx
    rw [List.getElem?_map] at hpd
    obtain ⟨w0, hw0, rfl⟩ := Option.map_eq_some_iff.mp hpd
    have dx2 := dx.mono (same_tp s2)
    have hn : n < R.length := (List.getElem?_eq_some_iff.mp hw0).1
    refine ⟨?_, ?_⟩
    · simp only [wipe]
      refine List.ext_getElem? fun q => ?_
      simp only [List.getElem?_set, List.length_set]
      by_cases h1 : i = q
      · subst h1; simp
      · simp [h1]
    · simp only [tYes, if_true]
      refine ⟨x, ?_, by show 2 ≤ sizeLine; decide, fun t ht => ⟨us, ?_, ?_, ?_⟩⟩
      · simp only [wipe, List.getElem?_set, List.length_set]
        simp [hi]
      · rw [upd_ne (ne_of_none e2 ht)]; exact e2
      · have := d2.length
        rw [List.length_map, List.length_map, List.length_take] at this
        exact small1000 (by omega)
      · have tp : Tups H2 (upd (upd H2 t (.tup [x, .int ((lab : Nat) : Int)])) D (.lst (us ++ [V.ref t]))) :=
          (tups_new ht).trans (tups_upd fun xs e => by rw [upd_ne (ne_of_none e2 ht), e2] at e; cases e)
        have tD : t ≠ D := fun z => by rw [z, e2] at ht; cases ht
        refine ⟨fun b o e => ?_, _, upd_same, ?_⟩
        · rw [upd_ne (ne_of_none e hD), upd_ne (ne_of_none (s2 _ _ e) ht)]
          exact s2 _ _ e
        · rw [List.take_succ, hw0, List.map_append, List.map_append]
          exact (d2.mono tp).snoc (.tup (by rw [upd_ne tD, upd_same]) (.cons (dx2.mono tp) (.cons (.int _) .nil)))
  · obtain ⟨s2, us, e2, d2⟩ := h
    rw [hrl, List.take_length] at d2
    exact k D H2 us hD s2 e2 d2
theorem smD_smp (R W : List (List Nat)) : (R.map fun w => (w, 1)).map smD ++ (W.map fun w => (w, 0)).map smD = (smp R W).map smD := by
  unfold smp
  rw [List.map_append]
theorem smp_len (R W : List (List Nat)) : (smp R W).length = R.length + W.length := by unfold smp; simp
theorem smp_bin {R W : List (List Nat)} (bR : Bin R) (bW : Bin W) : ∀ x ∈ smp R W, ∀ c ∈ x.1, c < 2 := fun x hx => by
  rcases smp_mem.mp hx with h | h
  · exact bR _ h.1
  · exact bW _ h.1
theorem smp_lab {R W : List (List Nat)} : ∀ x ∈ smp R W, x.2 < 2 := fun x hx => by
  rcases smp_mem.mp hx with h | h
  · rw [h.2]; decide
  · rw [h.2]; decide
def spLeast : Sp := fun vs H Q _ => ∃ vr vw R W most, vs = [vr, vw, .int ((most : Nat) : Int)] ∧ DV H vr (.tup (R.map wd)) ∧ DV H vw (.tup (W.map wd)) ∧ Bin R ∧ Bin W ∧ R.length + W.length ≤ 900 ∧ 1 ≤ most ∧ most ≤ 3 ∧
  (∀ H', Same H H' → (∀ j, 1 ≤ j → j ≤ most → ¬ Fits j (smp R W) k0) → Q .non H') ∧ ∀ m H', Same H H' → 1 ≤ m → m ≤ most → Fits m (smp R W) k0 → (∀ j, 1 ≤ j → j < m → ¬ Fits j (smp R W) k0) → Q (.int ((m : Nat) : Int)) H'
def spLFits : Sp := fun vs H Q _ => ∃ v vr vw l R W, vs = [v, vr, vw] ∧ DV H v (rwsD l) ∧ DV H vr (.tup (R.map wd)) ∧ DV H vw (.tup (W.map wd)) ∧ Bin R ∧ Bin W ∧ fullB l = true ∧ fitsB l R W = true ∧ ∀ H', Same H H' → Q (.bl true) H'
def spFirst : Sp := fun vs H Q _ => ∃ vr vw R W, vs = [vr, vw] ∧ DV H vr (.tup (R.map wd)) ∧ DV H vw (.tup (W.map wd)) ∧ ∀ v H', Same H H' → DV H' v (wd ((fstIn R W).getD [0, 1, 1])) → Q v H'
section
variable {P : Program} {w : World} {K : PySem.W.Frag} {mg : Str → Option Value} {base : Heap} {CR : Addr}
abbrev s_l_is_int : Stmt := top 29
theorem sc_l_is_int : FnScope ["thing"] ["thing"] (defScope s_l_is_int) := ⟨rfl, rfl, rfl, by decide +kernel, rfl, by decide +kernel, by decide +kernel⟩

theorem ok_lint {f : Addr} {fd : FuncData} (F : Fun K "_law_is_int" "_law_is_int" s_l_is_int f fd) (T : Txt K mg CR) : FnOk P w K mg base CX0 1 f fd ["thing"] spIsInt := by
  refine F.ok sc_l_is_int (fun vs H Q E h => ?_) (fun cdv A outer s H vs Q E hr h => ?_)
  · obtain ⟨i, rfl, _⟩ := h
    rfl
  obtain ⟨i, rfl, k⟩ := h
  refine ⟨_, (pss_one (ps_ret (pe_and (pe_callB call_isi2 (by rfl) T.z_isinstance b_isinstance (pa_cons (pv 0) (pa_cons (pe_bltn (v := .ty "int") (by rfl) T.z_int b_int rfl) pa_nil))) (pe_one (pe_not (pe_callB call_isi2 (by rfl) T.z_isinstance b_isinstance (pa_cons (pv 0) (pa_cons (pe_bltn (v := .ty "bool") (by rfl) T.z_bool b_bool rfl) pa_nil)))))))), ?_⟩
  refine ⟨_, rfl, _, _, _, true, rfl, .base (.int i), by decide +kernel, _, rfl, ifT rfl ?_⟩
  exact ⟨_, rfl, _, _, _, false, rfl, .base (.int i), by decide +kernel, _, rfl, k⟩
abbrev s_l_least : Stmt := top 32
theorem sc_l_least : FnScope ["right", "wrong", "most", "samples", "many", "word"] ["right", "wrong", "most"] (defScope s_l_least) := ⟨rfl, rfl, rfl, by decide +kernel, rfl, by decide +kernel, by decide +kernel⟩

theorem ok_least {f : Addr} {fd : FuncData} (F : Fun K "_law_least" "_law_least" s_l_least f fd) (T : Txt K mg CR) (C__law_fit : CalX P w K mg base CX0 8 "_law_fit" (spFit 7)) : FnOk P w K mg base CX0 9 f fd ["right", "wrong", "most"] spLeast := by
  refine F.ok sc_l_least (fun vs H Q E h => ?_) (fun cdv A outer s H vs Q E hr h => ?_)
  · obtain ⟨vr, vw, R, W, m, rfl, _⟩ := h
    rfl
  obtain ⟨vr, vw, R, W, most, rfl, hR, hW, bR, bW, few, m0, m3, kn, kk⟩ := h
  have hr : Room 8 _ := hr
  obtain ⟨cr, rs, rfl, hcr, hrs⟩ := hR.inv
  obtain ⟨cw, us, rfl, hcw, hws⟩ := hW.inv
  refine ⟨_, (pss_cons (ps_set (i := 3) sc_l_least.nd rfl (Or.inl rfl) (pe_op op_cat (pe_lc (own := [("word", 5)]) (g := gName 5) (by rfl) sc_l_least.nd (pi_tup (pv 0)) (blkOk_by (own := [("word", 5)]) (N := ["right", "wrong", "most", "samples", "many", "word"]) (sc := defScope s_l_least) (by decide +kernel)) (fun _ _ _ _ _ => pg_name (i := 5) sc_l_least.nd rfl (Or.inl rfl)) (fun _ _ _ _ _ => pts_nil) (fun _ _ _ _ _ => (pe_tup (pa_cons (pv 5) (pa_cons pe_int pa_nil))))) (pe_lc (own := [("word", 5)]) (g := gName 5) (by rfl) sc_l_least.nd (pi_tup (pv 1)) (blkOk_by (own := [("word", 5)]) (N := ["right", "wrong", "most", "samples", "many", "word"]) (sc := defScope s_l_least) (by decide +kernel)) (fun _ _ _ _ _ => pg_name (i := 5) sc_l_least.nd rfl (Or.inl rfl)) (fun _ _ _ _ _ => pts_nil) (fun _ _ _ _ _ => (pe_tup (pa_cons (pv 5) (pa_cons pe_int pa_nil)))))))
    (pss_cons (ps_for PassesOwn.never rfl (pi_range2 (by rfl) T.z_range (pa_cons pe_int (pa_cons (pe_op op_add (pv 2) pe_int) pa_nil))) (pg_name (i := 4) sc_l_least.nd rfl (Or.inl rfl)) (pss_one (ps_if (pt_val (pe_u C__law_fit hr (by omega) pass0 (pa_cons (pv 3) (pa_cons (pv 4) (pa_cons pe_dnewT pa_nil))))) (pss_one (ps_ret (pv 4))) pss_nil)))
    (pss_one (ps_ret pe_non)))), ?_⟩
  simp only [tSeq, tAsg, tOp]
  refine smp_lc (K := K) (σ := [some (.ref cr), some (.ref cw), some (.int ((most : Nat) : Int)), none, none, none]) 1 5 0 rfl hcr hrs (by omega) (by simp) fun D1 H1 u1 hD1 s1 e1 d1 => ?_
  refine smp_lc (K := K) (σ := [some (.ref cr), some (.ref cw), some (.int ((most : Nat) : Int)), none, none, none]) 0 5 1 rfl (s1 _ _ hcw) (hws.mono (same_tp s1)) (by omega) (by simp) fun D2 H2 u2 hD2 s2 e2 d2 => ?_
  have l1 := d1.length
  have l2 := d2.length
  simp only [List.length_map] at l1 l2
  refine ⟨D1, D2, u1, u2, rfl, rfl, s2 _ _ e1, e2, Nat.le_of_lt (small1000 (by omega)), fun sp hsp => ?_⟩
  have s3 : Same H (upd H2 sp (.lst (u1 ++ u2))) := (s1.trans s2).trans (Same.upd hsp)
  have h3 : upd H2 sp (.lst (u1 ++ u2)) sp = some (.lst (u1 ++ u2)) := upd_same
  have d3 : DVs (upd H2 sp (.lst (u1 ++ u2))) (u1 ++ u2) ((smp R W).map smD) := by
    rw [← smD_smp]
    exact ((d1.mono (same_tp s2)).append d2).mono (tups_new hsp)
  have few2 : (smp R W).length ≤ 900 := by rw [smp_len]; exact few
  generalize u1 ++ u2 = us3 at h3 d3 s3 ⊢
  generalize upd H2 sp (.lst us3) = H3 at s3 h3 d3 ⊢
  clear d1 d2 e1 e2 s1 s2 l1 l2
  refine ⟨_, rfl, _, _, rfl, rfl, 1, _, rfl, ⟨by omega, by omega, by omega, by omega⟩, ?_⟩
  refine for_range (lo := 1) (n := (((most : Nat) : Int) + 1 - 1).toNat) (fun i σ H' => Same H3 H' ∧ (∃ g4, σ = [some (.ref cr), some (.ref cw), some (.int ((most : Nat) : Int)), some (.ref sp), g4, none]) ∧ ∀ j, 1 ≤ j → j ≤ i → ¬ Fits j (smp R W) k0) ⟨Same.refl _, ⟨_, rfl⟩, fun j h1 h2 => by omega⟩ (fun i σ H' hi h => ?_) (fun σ H' h => ?_)
  · obtain ⟨s4, ⟨g4, rfl⟩, nf⟩ := h
    have hi : i < most := by omega
    have e1 : (1 : Int) + ((i : Nat) : Int) = ((i + 1 : Nat) : Int) := by omega
    rw [e1]
    refine ⟨_, rfl, _, rfl, fun d2 hd2 => ?_⟩
    have s5 : Same H3 (upd H' d2 (.dT [])) := s4.trans (Same.upd hd2)
    refine ⟨sp, d2, us3, smp R W, i + 1, k0, [], [], rfl, s5 _ _ h3, d3.mono (same_tp s5), smp_bin bR bW, few2, ⟨upd_same, rfl, List.nodup_nil, by simp, fun _ _ => rfl, fun r c s e => nomatch e⟩, by omega, by omega, by show 2 * (i + 1) ≤ 0 + 6; omega, fun b H6 hb s6 => ⟨_, rfl, ite2 (fun c => ?_) (fun c => ?_)⟩⟩
    · exact ⟨_, rfl, kk (i + 1) H6 ((s3.trans s5).trans s6) (by omega) (by omega) (hb.mp c) fun j h1 h2 => nf j h1 (by omega)⟩
    · refine ⟨s5.trans s6, ⟨_, rfl⟩, fun j h1 h2 => ?_⟩
      by_cases e : j = i + 1
      · subst e; exact fun z => c (hb.mpr z)
      · exact nf j h1 (by omega)
  · obtain ⟨s4, ⟨g4, rfl⟩, nf⟩ := h
    exact kn H' (s3.trans s4) fun j h1 h2 => nf j h1 (by omega)
abbrev s_l_first_in : Stmt := top 34
theorem sc_l_first_in : FnScope ["right", "wrong", "word"] ["right", "wrong"] (defScope s_l_first_in) := ⟨rfl, rfl, rfl, by decide +kernel, rfl, by decide +kernel, by decide +kernel⟩

theorem ok_first {f : Addr} {fd : FuncData} (F : Fun K "_law_first_in" "_law_first_in" s_l_first_in f fd) (T : Txt K mg CR) : FnOk P w K mg base CX0 1 f fd ["right", "wrong"] spFirst := by
  refine F.ok sc_l_first_in (fun vs H Q E h => ?_) (fun cdv A outer s H vs Q E hr h => ?_)
  · obtain ⟨vr, vw, R, W, rfl, _⟩ := h
    rfl
  obtain ⟨vr, vw, R, W, rfl, hR, hW, kk⟩ := h
  obtain ⟨cr, rs, rfl, hcr, hrs⟩ := hR.inv
  obtain ⟨cw, us, rfl, hcw, hus⟩ := hW.inv
  have hrl := hrs.length
  rw [List.length_map] at hrl
  refine ⟨_, (pss_cons (ps_for PassesOwn.never rfl (pi_tup (pv 0)) (pg_name (i := 2) sc_l_first_in.nd rfl (Or.inl rfl)) (pss_one (ps_if (pt_cmpR (op_inA (hu_a hr)) (pv 2) (pv 1) rfl) (pss_one (ps_ret (pv 2))) pss_nil)))
    (pss_one (ps_ret (pe_tup (pa_cons pe_int (pa_cons pe_int (pa_cons pe_int pa_nil))))))), ?_⟩
  refine ⟨_, rfl, cr, rfl, ⟨_, SqT.of hcr⟩, for_tup (K := K) (a := cr) (xs := rs) (fun i σ H' => H' = H ∧ (∃ g, σ = [some (.ref cr), some (.ref cw), g]) ∧ ∀ j (hj : j < R.length), j < i → R[j] ∉ W) ⟨rfl, ⟨_, rfl⟩, fun j hj z => absurd z (Nat.not_lt_zero _)⟩ (fun i σ H' _ h => by rw [h.1]; exact SqT.of hcr) (fun i x σ H' hx h => ?_) (fun σ H' h => ?_)⟩
  · obtain ⟨rfl, ⟨g, rfl⟩, done⟩ := h
    obtain ⟨pd, hpd, dx⟩ := hrs.get hx
    rw [List.getElem?_map] at hpd
    obtain ⟨w0, hw0, rfl⟩ := Option.map_eq_some_iff.mp hpd
    refine ⟨_, rfl, _, rfl, wd w0, cw, us, _, dx, rfl, .inl hcw, hus, Nat.le_trans (wd_deep _) (by decide), fun b hb => ⟨_, rfl, ?_⟩⟩
    rw [mem_wd] at hb
    refine ite2 (fun c => ?_) (fun c => ?_)
    · refine ⟨_, rfl, kk x H' (Same.refl _) ?_⟩
      rw [fstIn_at done hw0 (hb.mp c)]
      exact dx
    · refine ⟨rfl, ⟨_, rfl⟩, fun j hj lt => ?_⟩
      obtain ⟨hi, ew⟩ := List.getElem?_eq_some_iff.mp hw0
      by_cases e : j = i
      · subst e; rw [ew]; exact fun z => c (hb.mpr z)
      · exact done j hj (by omega)
  · obtain ⟨rfl, ⟨g, rfl⟩, done⟩ := h
    refine ⟨by show 3 ≤ sizeLine; decide, fun p hp => ?_⟩
    refine kk _ _ (Same.upd hp) ?_
    rw [fstIn_none fun j hj => done j hj (by omega)]
    exact .of_word (by rw [upd_same]; rfl)
end
end Toy

set_option Elab.async false
set_option linter.all false
set_option maxRecDepth 100000
set_option maxHeartbeats 4000000
namespace Toy
open PySem L2
section
variable {P : Program} {w : World} {K : PySem.W.Frag} {mg : Str → Option Value} {base : Heap} {CR : Addr}
abbrev s_l_fits : Stmt := top 33
theorem sc_l_fits : FnScope ["rows", "right", "wrong", "row", "words", "due", "word", "at", "cell", "number"] ["rows", "right", "wrong"] (defScope s_l_fits) := ⟨rfl, rfl, rfl, by decide +kernel, rfl, by decide +kernel, by decide +kernel⟩

theorem ok_lfits {f : Addr} {fd : FuncData} (F : Fun K "_law_fits" "_law_fits" s_l_fits f fd) (T : Txt K mg CR) (C__law_is_int : CalX P w K mg base CX0 1 "_law_is_int" spIsInt) : FnOk P w K mg base CX0 2 f fd ["rows", "right", "wrong"] spLFits := by
  refine F.ok sc_l_fits (fun vs H Q E h => ?_) (fun cdv A outer s H vs Q E hr h => ?_)
  · obtain ⟨v, vr, vw, l, R, W, rfl, _⟩ := h
    rfl
  obtain ⟨v, vr, vw, l, R, W, rfl, hv, hR, hW, bR, bW, fb, ff, kk⟩ := h
  obtain ⟨a, us, rfl, ha, hs⟩ := hv.inv
  obtain ⟨cr, rs, rfl, hcr, hrs⟩ := hR.inv
  obtain ⟨cw, ws, rfl, hcw, hws⟩ := hW.inv
  have hul := hs.length
  rw [List.length_map] at hul
  have hrl := hrs.length
  have hwl := hws.length
  rw [List.length_map] at hrl hwl
  have rb : ∀ x ∈ l, rowB l.length x = true := by
    unfold fullB at fb
    rw [Bool.and_eq_true, List.all_eq_true] at fb
    exact fb.2
  have rb2 : ∀ i (hi : i < l.length), l[i].1 < 2 ∧ l[i].2.1 < l.length ∧ l[i].2.2 < l.length := fun i hi => by
    have := rb _ (List.getElem_mem hi)
    unfold rowB at this
    simp only [Bool.and_eq_true, decide_eq_true_eq] at this
    exact ⟨this.1.1, this.1.2, this.2⟩
  have okr : okRw l := fun x hx => by
    obtain ⟨i, hi, rfl⟩ := List.getElem_of_mem hx
    exact (rb2 i hi).2
  have lpos : 0 < l.length := by
    cases l with
    | nil => unfold fullB at fb; simp at fb
    | cons _ _ => simp
  unfold fitsB at ff
  rw [Bool.and_eq_true, List.all_eq_true, List.all_eq_true] at ff
  obtain ⟨fR, fW⟩ := ff
  refine ⟨_, (pss_cons (ps_if (pt_not (pt_val (pe_callB call_isi2 (by rfl) T.z_isinstance b_isinstance (pa_cons (pv 0) (pa_cons (pe_bltn (v := .ty "tuple") (by rfl) T.z_tuple b_tuple rfl) pa_nil))))) (pss_one (ps_ret pe_bl)) pss_nil)
    (pss_cons (ps_for PassesOwn.never rfl (pi_tup (pv 0)) (pg_name (i := 3) sc_l_fits.nd rfl (Or.inl rfl)) (pss_cons (ps_if (PW.pt (pw_or (pt_not (pt_val (pe_callB call_isi2 (by rfl) T.z_isinstance b_isinstance (pa_cons (pv 3) (pa_cons (pe_bltn (v := .ty "tuple") (by rfl) T.z_tuple b_tuple rfl) pa_nil))))) (pw_or (pt_cmpR op_ne (pe_callB call_len_seq (by rfl) T.z_len b_len (pa_cons (pv 3) pa_nil)) pe_int (nomark _)) (pw_or (pt_cmpR op_notIn_seq (pe_ix ix_tup (pv 3) pe_int (fun _ _ => rfl)) (pe_tup (pa_cons pe_int (pa_cons pe_int pa_nil))) rfl) (pw_or1 (pt_cmpR op_ne (pe_callB call_len_seq (by rfl) T.z_len b_len (pa_cons (pe_ix ix_tup (pv 3) pe_int (fun _ _ => rfl)) pa_nil)) pe_int (nomark _))))))) (pss_one (ps_ret pe_bl)) pss_nil)
    (pss_one (ps_if (pt_cmpR op_gt (pe_callB call_len_seq (by rfl) T.z_len b_len (pa_cons (pe_lc (own := [("number", 9)]) (g := gName 9) (by rfl) sc_l_fits.nd (pi_tup (pe_ix ix_tup (pv 3) pe_int (fun _ _ => rfl))) (blkOk_by (own := [("number", 9)]) (N := ["rows", "right", "wrong", "row", "words", "due", "word", "at", "cell", "number"]) (sc := defScope s_l_fits) (by decide +kernel)) (fun _ _ _ _ _ => pg_name (i := 9) sc_l_fits.nd rfl (Or.inl rfl)) (fun _ _ _ _ _ => pts_one (PW.pt (pw_or (pt_not (pt_val (pe_u C__law_is_int hr (by omega) pass0 (pa_cons (pv 9) pa_nil)))) (pw_or1 (pt_not (pt_chain op_le op_lt pe_int (pv 9) (pe_callB (callK_len_seq K rfl) (by rfl) T.z_len b_len (pa_cons (pv 0) pa_nil)))))))) (fun _ _ _ _ _ => (pv 9))) pa_nil)) pe_int (nomark _)) (pss_one (ps_ret pe_bl)) pss_nil))))
    (pss_cons (ps_for PassesOwn.never rfl (pi_list (pe_lst (pa_cons (pe_tup (pa_cons (pv 1) (pa_cons pe_int pa_nil))) (pa_cons (pe_tup (pa_cons (pv 2) (pa_cons pe_int pa_nil))) pa_nil)))) (pg_tup (by rfl) (pgs_cons (pg_name (i := 4) sc_l_fits.nd rfl (Or.inl rfl)) (pgs_cons (pg_name (i := 5) sc_l_fits.nd rfl (Or.inl rfl)) pgs_nil))) (pss_one (ps_for PassesOwn.never rfl (pi_tup (pv 4)) (pg_name (i := 6) sc_l_fits.nd rfl (Or.inl rfl)) (pss_cons (ps_set (i := 7) sc_l_fits.nd rfl (Or.inl rfl) pe_int)
    (pss_cons (ps_for PassesOwn.never rfl (pi_tup (pv 6)) (pg_name (i := 8) sc_l_fits.nd rfl (Or.inl rfl)) (pss_one (ps_set (i := 7) sc_l_fits.nd rfl (Or.inl rfl) (pe_ix ix_tup (pe_ix ix_tup (pe_ix ix_tup (pv 0) (pv 7) (fun _ _ => rfl)) pe_int (fun _ _ => rfl)) (pv 8) (fun _ _ => rfl)))))
    (pss_one (ps_if (pt_cmpR op_ne (pe_ix ix_tup (pe_ix ix_tup (pv 0) (pv 7) (fun _ _ => rfl)) pe_int (fun _ _ => rfl)) (pv 5) (nomark _)) (pss_one (ps_ret pe_bl)) pss_nil)))))))
    (pss_one (ps_ret pe_bl))))), ?_⟩
  refine ⟨_, rfl, _, _, _, true, rfl, .base (.tup ha), by decide +kernel, _, rfl, ifF (by simp) ?_⟩
  refine ⟨_, rfl, a, rfl, ⟨_, SqT.of ha⟩, for_tup (K := K) (a := a) (xs := us) (fun i σ H' => Same H H' ∧ ∃ g3, σ = [some (.ref a), some (.ref cr), some (.ref cw), g3, none, none, none, none, none, none]) ⟨Same.refl H, _, rfl⟩ (fun i σ H' _ h => SqT.of (h.1 _ _ ha)) (fun i x σ H' hx h => ?_) (fun σ H' h => ?_)⟩
  · obtain ⟨s1, g3, rfl⟩ := h
    have hi : i < l.length := by have := (List.getElem?_eq_some_iff.mp hx).1; omega
    obtain ⟨q, b, e1, e2, e3⟩ := row_at hs hi
    rw [hx] at e1
    obtain rfl := Option.some.inj e1
    have er : l.getD i (0, 0, 0) = l[i] := by rw [List.getD_eq_getElem?_getD, List.getElem?_eq_getElem hi]; rfl
    rw [er] at e2 e3
    obtain ⟨c1, c2, c3⟩ := rb2 i hi
    have e21 := s1 _ _ e2
    have e31 := s1 _ _ e3
    refine ⟨_, rfl, _, _, _, true, rfl, .base (.tup e21), by decide +kernel, _, rfl, ifF (by simp) ?_⟩
    refine ⟨_, rfl, q, _, rfl, .inr (SqT.of e21), rfl, _, rfl, ifF (by simp) ?_⟩
    refine ⟨_, rfl, q, _, _, _, rfl, rfl, SqT.of e21, rfl, by show 2 ≤ sizeLine; decide, fun t ht => ⟨t, _, rfl, .inr (SqT.of upd_same), rfl, rfl, _, rfl, ?_⟩⟩
    have s2 : Same H (upd H' t (.tup [V.int 0, V.int 1])) := s1.trans (Same.upd ht)
    have e22 := (Same.upd (o := .tup [V.int 0, V.int 1]) ht) _ _ e21
    have e32 := (Same.upd (o := .tup [V.int 0, V.int 1]) ht) _ _ e31
    generalize upd H' t (.tup [V.int 0, V.int 1]) = H2 at s2 e22 e32 ⊢
    rw [in01]
    refine ifF (by simp [c1]) ?_
    refine ⟨_, rfl, q, _, _, _, rfl, rfl, SqT.of e22, rfl, b, _, rfl, .inr (SqT.of e32), rfl, _, rfl, ifF (by simp) ?_⟩
    refine ⟨_, rfl, q, _, _, _, rfl, rfl, SqT.of e22, rfl, b, rfl, ⟨_, SqT.of e32⟩, fun D hD => ?_⟩
    refine lc_tup (K := K) (a := b) (xs := [V.int ((l[i].2.1 : Nat) : Int), V.int ((l[i].2.2 : Nat) : Int)]) (fun j H3 => Same H2 H3 ∧ H3 D = some (.lst [])) ⟨Same.upd hD, upd_same⟩ (fun _ H3 _ h => SqT.of (h.1 _ _ e32)) (fun j x H3 hx2 h => ?_) (fun H3 h => ?_)
    · obtain ⟨s3, e4⟩ := h
      obtain ⟨n, rfl, nl⟩ : ∃ n : Nat, x = V.int ((n : Nat) : Int) ∧ n < l.length := by
        have := List.mem_of_getElem? hx2
        simp only [List.mem_cons, List.not_mem_nil, or_false] at this
        rcases this with rfl | rfl
        · exact ⟨_, rfl, c2⟩
        · exact ⟨_, rfl, c3⟩
      refine ⟨rfl, _, rfl, _, rfl, _, rfl, ifF (by simp) ?_⟩
      refine ⟨_, rfl, _, _, rfl, rfl, _, rfl, ite2 (fun d => ?_) (fun d => absurd (decide_eq_true (show (0 : Int) ≤ ((n : Nat) : Int) by omega)) d)⟩
      refine ⟨_, rfl, a, _, rfl, .inr (SqT.of (s3 _ _ (s2 _ _ ha))), _, _, rfl, rfl, _, rfl, ?_⟩
      rw [decide_eq_true (show ((n : Nat) : Int) < ((us.length : Nat) : Int) by omega)]
      exact ifF (by decide) ⟨s3, e4⟩
    · obtain ⟨s3, e4⟩ := h
      refine ⟨D, _, rfl, .inl (SqL.of e4), _, _, rfl, rfl, _, rfl, ifF (by simp) ⟨s2.trans s3, _, rfl⟩⟩
  · obtain ⟨s1, g3, rfl⟩ := h
    refine ⟨_, rfl, by show 2 ≤ sizeLine; decide, fun t1 ht1 => ⟨_, rfl, by show 2 ≤ sizeLine; decide, fun t2 ht2 => ⟨by show 2 ≤ sizeLine; decide, fun D hD => ?_⟩⟩⟩
    have n12 : t1 ≠ t2 := fun z => by rw [← z, upd_same] at ht2; cases ht2
    have n1D : t1 ≠ D := fun z => by rw [← z, upd_ne n12, upd_same] at hD; cases hD
    have n2D : t2 ≠ D := fun z => by rw [← z, upd_same] at hD; cases hD
    have s2 : Same H (upd (upd (upd H' t1 (.tup [.ref cr, .int 1])) t2 (.tup [.ref cw, .int 0])) D (.lst [.ref t1, .ref t2])) := ((s1.trans (Same.upd ht1)).trans (Same.upd ht2)).trans (Same.upd hD)
    have h1 : upd (upd (upd H' t1 (.tup [.ref cr, .int 1])) t2 (.tup [.ref cw, .int 0])) D (.lst [.ref t1, .ref t2]) t1 = some (.tup [.ref cr, .int 1]) := by rw [upd_ne n1D, upd_ne n12, upd_same]
    have h2 : upd (upd (upd H' t1 (.tup [.ref cr, .int 1])) t2 (.tup [.ref cw, .int 0])) D (.lst [.ref t1, .ref t2]) t2 = some (.tup [.ref cw, .int 0]) := by rw [upd_ne n2D, upd_same]
    have hd : upd (upd (upd H' t1 (.tup [.ref cr, .int 1])) t2 (.tup [.ref cw, .int 0])) D (.lst [.ref t1, .ref t2]) D = some (.lst [.ref t1, .ref t2]) := upd_same
    generalize upd (upd (upd H' t1 (.tup [.ref cr, .int 1])) t2 (.tup [.ref cw, .int 0])) D (.lst [.ref t1, .ref t2]) = H2 at s2 h1 h2 hd ⊢
    have ha2 := s2 _ _ ha
    have hs2 := hs.mono (same_tp s2)
    refine ⟨D, rfl, ⟨_, SqL.of hd⟩, for_list (K := K) (a := D) (xs := [V.ref t1, .ref t2]) (fun i σ H' => H' = H2 ∧ ∃ g3 g4 g5 g6 g7 g8, σ = [some (.ref a), some (.ref cr), some (.ref cw), g3, g4, g5, g6, g7, g8, none]) ⟨rfl, _, _, _, _, _, _, rfl⟩ (fun _ H' _ _ h => by rw [h.1]; exact SqL.of hd) (fun i x σ H' hx h => ?_) (fun σ H' h => ?_)⟩
    · obtain ⟨rfl, g3, g4, g5, g6, g7, g8, rfl⟩ := h
      obtain ⟨tt, c, S, cs, due, rfl, htt, hc, hcs, bS, fS⟩ : ∃ (tt c : Addr) (S : List (List Nat)) (cs : List V) (due : Nat), x = .ref tt ∧ H' tt = some (.tup [.ref c, .int ((due : Nat) : Int)]) ∧ H' c = some (.tup cs) ∧ DVs H' cs (S.map wd) ∧ Bin S ∧ ∀ w ∈ S, endRw l (walkRw l 0 w) = due := by
        have := List.mem_of_getElem? hx
        simp only [List.mem_cons, List.not_mem_nil, or_false] at this
        rcases this with rfl | rfl
        · exact ⟨t1, cr, R, rs, 1, rfl, h1, s2 _ _ hcr, hrs.mono (same_tp s2), bR, fun w hw => of_decide_eq_true (fR w hw)⟩
        · exact ⟨t2, cw, W, ws, 0, rfl, h2, s2 _ _ hcw, hws.mono (same_tp s2), bW, fun w hw => of_decide_eq_true (fW w hw)⟩
      refine ⟨tt, _, rfl, SqT.of htt, rfl, _, _, rfl, _, _, rfl, rfl, ?_⟩
      refine ⟨_, rfl, c, rfl, ⟨_, SqT.of hc⟩, for_tup (K := K) (a := c) (xs := cs) (fun j σ H2 => H2 = H' ∧ ∃ g6 g7 g8, σ = [some (.ref a), some (.ref cr), some (.ref cw), g3, some (.ref c), some (.int ((due : Nat) : Int)), g6, g7, g8, none]) ⟨rfl, _, _, _, rfl⟩ (fun _ H2 _ _ h => by rw [h.1]; exact SqT.of hc) (fun j x σ H2 hx2 h => ?_) (fun σ H2 h => ?_)⟩
      · obtain ⟨rfl, g6, g7, g8, rfl⟩ := h
        obtain ⟨pd, hpd, dx⟩ := hcs.get hx2
        rw [List.getElem?_map] at hpd
        obtain ⟨w0, hw0, rfl⟩ := Option.map_eq_some_iff.mp hpd
        have m0 := List.mem_of_getElem? hw0
        have wb := bS w0 m0
        obtain ⟨wp, rfl, hwp⟩ := dx.word
        refine ⟨_, rfl, wp, rfl, ⟨_, SqT.of hwp⟩, for_tup (K := K) (a := wp) (xs := w0.map fun c : Nat => V.int (c : Int)) (fun n σ H3 => H3 = H2 ∧ ∃ m g8, σ = [some (.ref a), some (.ref cr), some (.ref cw), g3, some (.ref c), some (.int ((due : Nat) : Int)), some (.ref wp), some (.int ((m : Nat) : Int)), g8, none] ∧ m < l.length ∧ walkRw l m (w0.drop n) = walkRw l 0 w0) ⟨rfl, 0, _, rfl, lpos, rfl⟩ (fun _ H3 _ _ h => by rw [h.1]; exact SqT.of hwp) (fun n x σ H3 hx3 h => ?_) (fun σ H3 h => ?_)⟩
        · obtain ⟨rfl, m, g8, rfl, hm, hw⟩ := h
          rw [List.getElem?_map] at hx3
          obtain ⟨cc, hc1, rfl⟩ := Option.map_eq_some_iff.mp hx3
          obtain ⟨q, e, r1, r2, r3⟩ := row_at hs2 hm
          have cl : cc < 2 := wb cc (List.mem_of_getElem? hc1)
          have lst : l.getD m (0, 0, 0) ∈ l := by
            rw [List.getD_eq_getElem?_getD, List.getElem?_eq_getElem hm]
            exact List.getElem_mem hm
          have go : atI [V.int ((l.getD m (0, 0, 0)).2.1 : Int), V.int ((l.getD m (0, 0, 0)).2.2 : Int)] (cc : Int) = some (.int (goRw l m cc : Nat)) := by
            unfold goRw
            have c2 : cc = 0 ∨ cc = 1 := by omega
            rcases c2 with rfl | rfl <;> rfl
          have dr : w0.drop n = cc :: w0.drop (n + 1) := by
            obtain ⟨h1, h2⟩ := List.getElem?_eq_some_iff.mp hc1
            rw [List.drop_eq_getElem_cons h1, h2]
          refine ⟨_, rfl, _, rfl, a, _, _, _, rfl, rfl, SqT.of ha2, atI_nat r1, q, _, 1, _, rfl, rfl, SqT.of r2, rfl, _, rfl, e, _, _, _, rfl, rfl, SqT.of r3, go, rfl, goRw l m cc, _, rfl, ?_, ?_⟩
          · unfold goRw
            have := okr _ lst
            split <;> omega
          · rw [dr] at hw
            exact hw
        · obtain ⟨rfl, m, g8, rfl, hm, hw⟩ := h
          rw [List.length_map, List.drop_length] at hw
          have hw : m = walkRw l 0 w0 := hw
          obtain ⟨q, e, r1, r2, r3⟩ := row_at hs2 hm
          have en : (l.getD m (0, 0, 0)).1 = due := by rw [hw]; exact fS w0 m0
          rw [en] at r2
          exact ⟨_, rfl, _, rfl, a, _, _, _, rfl, rfl, SqT.of ha2, atI_nat r1, q, _, _, _, rfl, rfl, SqT.of r2, rfl, _, rfl, rfl, _, rfl, ifF (by simp) ⟨rfl, _, _, _, rfl⟩⟩
      · obtain ⟨rfl, g6, g7, g8, rfl⟩ := h
        exact ⟨rfl, _, _, _, _, _, _, rfl⟩
    · obtain ⟨rfl, g3, g4, g5, g6, g7, g8, rfl⟩ := h
      exact kk _ s2
end
end Toy

set_option Elab.async false
set_option linter.all false
set_option maxRecDepth 100000
set_option maxHeartbeats 4000000
/-! try with several clauses, each with a name -/
namespace L2
open PySem PySem.Spec PyProof.Rows
def wNames (K : PySem.W.Frag) (Wo : WX) (D : Ends) : List (Value × Nat × (Addr → Value → Option Addr → TS)) → WX
  | [] => Wo
  | (c, i, ts) :: r => wAs K c i ts (wNames K Wo D r) D
inductive ClsOk (X : Cx) : List ExceptHandler → List (Value × Nat × (Addr → Value → Option Addr → TS)) → Prop
  | nil : ClsOk X [] []
  | cons {x n : Str} {c : Value} {i : Nat} {ts : Addr → Value → Option Addr → TS} {st : Stmt} {sts : List Stmt} {p1 p2 : Pos} {hs : List ExceptHandler} {l : List (Value × Nat × (Addr → Value → Option Addr → TS))}
      (at_ : X.N[i]? = some n) (lo : X.env.kindOf n = some .local) (nm : Names X x c)
      (su : ∀ (e : Addr) (o : Obj) (cls : Value) (d : Option Addr) (q : List (Addr × Obj)), Zc cls d o → (∃ vs, o.data = .fields vs) → PSs (X.suite e ((e, o) :: q)) (st :: sts) (ts e cls d))
      (more : ClsOk X hs l) : ClsOk X (.ExceptHandler (some (.Name x p1)) (some n) (st :: sts) p2 :: hs) ((c, i, ts) :: l)
section
variable {X : Cx} {blk : List Stmt} {h1 : ExceptHandler} {hr : List ExceptHandler} {l : List (Value × Nat × (Addr → Value → Option Addr → TS))} {pos : Pos} {tb : WX → TS} {Wo : WX}
theorem ps_try_names (c1 : X.stack = X.env :: X.outer) (c2 : X.env.frame = some X.env.locals) (c3 : X.N.Nodup) (out : Takes X Wo)
    (inn : ∀ (W : WX) (q : List (Addr × Obj)) (xe : Value → Shared → Prop), Takes (X.tr q xe) W → PassesOwn (model X.prog X.w) X.A X.env xe → PSs (X.tr q xe) blk (tb W))
    (cls_ok : ClsOk X (h1 :: hr) l) : PS X (.Try blk (h1 :: hr) [] [] pos) (fun D σ H => tb (wNames X.K Wo D l) D σ H) := by
  constructor
  intro pins s0 σ0 H0 D I0 goal0
  have k0 := I0.ok
  have fr0 : X.A.frames = some (X.env :: X.outer) := k0.frames.trans (congrArg some c1)
  apply wpAny_Try_except
  apply wpAny_mono (Q := SP (X.tr (X.pn ++ pins) _) [] D)
    ((inn (wNames X.K Wo D l) (X.pn ++ pins) (fun e t => wpAny (model X.prog X.w) X.A (noteFrame e X.env) (fun _ t2 => wpAny (model X.prog X.w) X.A (setFlight e none)
      (fun _ t3 => wpAny (model X.prog X.w) X.A (handleBy e X.env (h1 :: hr)) (SP X pins D) X.xe t3) X.xe t2) X.xe t) ?caught PassesOwn.looking).run [] s0 σ0 H0 D (I0.toTry _) goal0)
  case caught =>
    intro u s1 raised
    obtain ⟨e, B, sB, pB, σ1, H1, cls, d, rfl, IB, nb, up1, sky1, fresh1, os1, ag1, wish⟩ := raised
    have J1 : Inv X pins σ1 H1 sB := IB.ofTry k0
    rw [c1] at sky1
    refine Sky.land Zc.steady fr0 c2 sky1 fun g fl up2 => ?_
    have Jg : Inv X pins σ1 H1 { s1 with heap := g } := J1.landed nb fl.1 (up1.trans up2) os1 ag1
    obtain ⟨oe, ve, ge, ze, de⟩ := fl.there
    have off : e ∉ frs (X.env :: X.outer) := fun m => by
      obtain ⟨_, o2, g2, bad⟩ := fl.2.2.1.mem m
      cases ge.symm.trans g2
      exact bad _ de
    have offL : e ≠ X.env.locals := fun z => off (List.mem_filterMap.mpr ⟨X.env, .head _, c2.trans (congrArg some z.symm)⟩)
    have offF : e ∉ X.fs := fun m => let ⟨v, mv, fv⟩ := List.mem_filterMap.mp m; off (List.mem_filterMap.mpr ⟨v, .tail _ mv, fv⟩)
    have Sg := Jg.suite ge de fresh1 offL offF
    suffices all : ∀ {hs : List ExceptHandler} {ll : List (Value × Nat × (Addr → Value → Option Addr → TS))}, ClsOk X hs ll → wNames X.K Wo D ll cls d σ1 H1 →
        wpAny (model X.prog X.w) X.A (handleBy (.ref e) X.env hs) (SP X pins D) X.xe { s1 with heap := g } from all cls_ok wish
    intro hs ll ok
    induction ok with
    | nil =>
      intro wo
      apply wpAny_handleBy_nil
      obtain ⟨_, _, _, o3, v3, T3, _, _, g3, _, d3, t3, _⟩ := id fl
      unfold PySem.passOn
      apply wpAny_bind
      apply wpAny_field g3 d3 t3
      rw [if_neg (by simp : ¬ ((Value.ref T3 == Value.none) = true))]
      have last : wpAny (model X.prog X.w) X.A (setFlight (.ref e) X.env.frame) (fun _ t4 => wpAny (model X.prog X.w) X.A (throw (.ref e) : Sem Flow) (SP X pins D) X.xe t4) X.xe { s1 with heap := g } := by
        rw [c2]
        refine HandSPX.setFlight_upZ fl fun g4 held up4 => wpAny_throw (out _ _ ⟨e, B, sB, pins, σ1, H1, cls, d, rfl, J1, nb, (up1.trans up2).trans up4, .inr (.inr ?_), fresh1, os1, ag1, wo⟩)
        rw [c1]
        exact held
      first
        | exact wpAny_bind last
        | exact wpAny_bind (wpAny_pure (wpAny_bind last))
    | @cons x n c i ts st sts p1 p2 hs2 l2 at_ lo nm su more ih =>
      rintro ⟨b, eb, yes, no⟩
      refine wpAny_handleBy_cons (codeAny_handlers_test ?_) (fun z => nomatch z)
      have tyE : PySem.W.Looks (model X.prog X.w) g (typeOf (.ref e)) cls := fun _ _ _ t k z => wpAny_typeOf_ref (k _ _ ge) (ze.1 ▸ z)
      have isE := (PySem.W.exm_one (M := model X.prog X.w) Jg.kIn tyE eb)
      obtain ⟨gx, dx, what⟩ := nm
      have look : ∀ {Q : Value → Shared → Prop} {E : Value → Shared → Prop}, Q c { s1 with heap := g } → wpAny (model X.prog X.w) (X.A.mark (some (.ref e))) (eval (.Name x p1) X.env) Q E { s1 with heap := g } := by
        intro Q E z
        rcases what with m | ⟨m, v, nn⟩
        · exact ld_glob (X := X.suite e ((e, oe) :: (X.pn ++ pins))) Sg gx m z dx
        · exact ld_blt (X := X.suite e ((e, oe) :: (X.pn ++ pins))) Sg gx m v z nn dx
      apply look
      apply isE.here
      cases b with
      | false => exact ih (no rfl)
      | true =>
        apply codeAny_handlers_suite_as
        refine HandSPX.lands_againZ fl fun g5 fl5 up5 => ?_
        have J5 : Inv X pins σ1 H1 { s1 with heap := g5 } := J1.landed nb fl5.1 ((up1.trans up2).trans up5) os1 ag1
        obtain ⟨o5, v5, ge5, z5, d5⟩ := fl5.there
        have S5 := J5.suite ge5 d5 fresh1 offL offF
        refine store_ok (X := X.suite e ((e, o5) :: (X.pn ++ pins))) (v := .ref e) S5 c3 at_ (.inl lo) rfl (fun s6 S6 => ?_) (.inr lo)
        refine wpAny_mono ((su e o5 cls d (X.pn ++ pins) z5 ⟨_, d5⟩).run [] s6 _ H1 _ S6 (yes rfl e fresh1)) (fun f s7 h7 => ?_) (fun _ _ z => z.elim)
        have gone : ∀ {σ7 : St} {H7 : Hp} {Q : Shared → Prop}, Inv (X.suite e ((e, o5) :: (X.pn ++ pins))) [] σ7 H7 s7 → (∀ s8, Inv X pins (σ7.set i none) H7 s8 → Q s8) →
            wpAny (model X.prog X.w) X.A (do bindName X.env n .none; unbindBehindTheSuite X.env n p2) (fun _ s8 => Q s8) X.xe s7 := fun S7 q => gone_ok (S7.unsuite k0) c3 at_ lo q
        cases f with
        | next => obtain ⟨σ7, H7, S7, q7⟩ := h7; exact gone S7 fun s8 J8 => ⟨_, _, J8, q7⟩
        | brk => obtain ⟨σ7, H7, S7, q7⟩ := h7; exact gone S7 fun s8 J8 => ⟨_, _, J8, q7⟩
        | cont => obtain ⟨σ7, H7, S7, q7⟩ := h7; exact gone S7 fun s8 J8 => ⟨_, _, J8, q7⟩
        | ret u => obtain ⟨v7, σ7, H7, S7, r7, q7⟩ := h7; exact gone S7 fun s8 J8 => ⟨_, _, _, J8, r7, q7⟩
  · intro f s1 h7
    cases f with
    | next => obtain ⟨σ7, H7, S7, q7⟩ := h7; exact wpAny_execs_nil ⟨σ7, H7, S7.ofTry k0, q7⟩
    | brk => obtain ⟨σ7, H7, S7, q7⟩ := h7; exact ⟨σ7, H7, S7.ofTry k0, q7⟩
    | cont => obtain ⟨σ7, H7, S7, q7⟩ := h7; exact ⟨σ7, H7, S7.ofTry k0, q7⟩
    | ret u => obtain ⟨v7, σ7, H7, S7, r7, q7⟩ := h7; exact ⟨v7, σ7, H7, S7.ofTry k0, r7, q7⟩
  · exact fun _ _ z => z
end
end L2

set_option Elab.async false
set_option linter.all false
set_option maxRecDepth 100000
set_option maxHeartbeats 4000000
namespace Toy
open PySem L2
def spRefusal : Sp := fun vs H Q _ => ∃ vr vw R W, vs = [vr, vw] ∧ DV H vr (.tup (R.map wd)) ∧ DV H vw (.tup (W.map wd)) ∧ Bin R ∧ Bin W ∧ ((R ++ W).map List.length).sum ≤ 900 ∧ R.length + W.length ≤ 900 ∧
  (∀ w, fstIn R W = some w → ∀ v H', Same H H' → DV H' v (.tup [.str "clash", wd w]) → Q v H') ∧
  (fstIn R W = none → ∀ full, SortedW full → (∀ w, w ∈ full ↔ Beg (R ++ W) w) →
    (24 < full.length ∧ ∀ v H', Same H H' → DV H' v (.tup [.str "large", .str "samples"]) → Q v H') ∨
    (full.length ≤ 24 ∧ ∀ v H', Same H H' → DV H' v (.tup [.str "none", .non]) → Q v H'))
theorem lk_sample (v : V) : List.lookup ("sample" : Str) [(("sample" : Str), v)] = some v := by simp [List.lookup]
theorem lk_what (v : V) : List.lookup ("what" : Str) [(("what" : Str), v)] = some v := by simp [List.lookup]
section
variable {P : Program} {w : World} {K : PySem.W.Frag} {mg : Str → Option Value} {base : Heap} {CR CT CF CL fL cL dL CC fC cC dC : Addr}
abbrev s_l_refusal : Stmt := top 35
theorem sc_l_refusal : FnScope ["right", "wrong", "e"] ["right", "wrong"] (defScope s_l_refusal) := ⟨rfl, rfl, rfl, by decide +kernel, rfl, by decide +kernel, by decide +kernel⟩

theorem ok_refusal {l : Nat} {f : Addr} {fd : FuncData} (F : Fun K "_law_refusal" "_law_refusal" s_l_refusal f fd) (T : Tx P K mg CR CT CF CL fL cL dL CC fC cC dC) (C_fewest : CalX P w K mg base (L2.CX P w) l "fewest" (spFewest CL CC)) : FnOk P w K mg base CX0 (l + 1) f fd ["right", "wrong"] spRefusal := by
  refine F.ok sc_l_refusal (fun vs H Q E h => ?_) (fun cdv A outer s H vs Q E hr h => ?_)
  · obtain ⟨vr, vw, R, W, rfl, _⟩ := h
    rfl
  obtain ⟨vr, vw, R, W, rfl, hR, hW, bR, bW, hsum, cnt, kC, kk⟩ := h
  have hr : Room l _ := hr
  refine ⟨_, (pss_one (ps_try_names (Wo := fun _ _ _ _ => False) rfl rfl sc_l_refusal.nd takes0
      (fun W pn xe tk _ => (pss_cons (ps_expr (pe_uS C_fewest hr (by omega) (fun σ => passAt tk σ) (pa_cons pe_int (pa_cons (pv 0) (pa_cons (pv 1) (pa_cons pe_int pa_nil))))))
    (pss_one (ps_ret (pe_tup (pa_cons pe_str (pa_cons pe_non pa_nil)))))))
      (.cons (i := 2) rfl rfl ⟨rfl, by decide, .inl T.g_Clash⟩ (fun a oe cls d pn hz hf => (pss_one (ps_ret (pe_tup (pa_cons pe_str (pa_cons (pe_xf (T.x_Clash.xf) T.x_Clash.noN hz hf (pv 2)) pa_nil)))))) (.cons (i := 2) rfl rfl ⟨rfl, by decide, .inl T.g_TooLarge⟩ (fun a oe cls d pn hz hf => (pss_one (ps_ret (pe_tup (pa_cons pe_str (pa_cons (pe_xf (T.x_TooLarge.xf) T.x_TooLarge.noN hz hf (pv 2)) pa_nil)))))) (.cons (i := 2) rfl rfl ⟨rfl, by decide, .inl T.g_FormatError⟩ (fun a oe cls d pn hz hf => (pss_one (ps_ret (pe_tup (pa_cons pe_str (pa_cons pe_non pa_nil)))))) .nil))))), ?_⟩
  refine ⟨_, rfl, _, rfl, vr, vw, R, W, 2, rfl, hR, hW, bR, bW, hsum, cnt, by decide, by decide, fun w0 ew v dd H1 dv s1 hdd hx => ?_, fun en full so me => ?_⟩
  · refine ⟨true, T.x_Clash.te, fun _ a ha => ?_, fun z => nomatch z⟩
    refine ⟨_, rfl, rfl, rfl, dd, _, _, rfl, hx, lk_sample _, by show 2 ≤ sizeLine; decide, fun p hp => ?_⟩
    exact kC w0 ew _ _ (s1.trans (Same.upd hp)) (.tup upd_same (.cons (.str _) (.cons (dv.mono (tups_new hp)) .nil)))
  · rcases kk en full so me with ⟨big, kL⟩ | ⟨few, kN⟩
    · refine .inl ⟨big, fun dd H1 s1 hdd hx => ⟨false, T.nLC, fun z => (nomatch z), fun _ => ⟨true, T.x_TooLarge.te, fun _ a ha => ?_, fun z => nomatch z⟩⟩⟩
      refine ⟨_, rfl, rfl, rfl, dd, _, _, rfl, hx, lk_what _, by show 2 ≤ sizeLine; decide, fun p hp => ?_⟩
      exact kL _ _ (s1.trans (Same.upd hp)) (.tup upd_same (.cons (.str _) (.cons (.str _) .nil)))
    · refine .inr ⟨few, cost2 _ (by omega), fun v H1 s1 dv => ?_⟩
      refine ⟨by show 2 ≤ sizeLine; decide, fun p hp => ?_⟩
      exact kN _ _ (s1.trans (Same.upd hp)) (.tup upd_same (.cons (.str _) (.cons .non .nil)))
end
end Toy

set_option Elab.async false
set_option linter.all false
set_option maxRecDepth 100000
set_option maxHeartbeats 4000000
namespace Toy
open PySem L2
theorem nodup_le {α : Type} [BEq α] [LawfulBEq α] : ∀ {l m : List α}, l.Nodup → (∀ x ∈ l, x ∈ m) → l.length ≤ m.length
  | [], m, _, _ => Nat.zero_le _
  | a :: l, m, nd, h => by
    obtain ⟨h1, h2⟩ := List.nodup_cons.mp nd
    have ha := h a List.mem_cons_self
    have := nodup_le (m := m.erase a) h2 fun x hx => by
      have ne : x ≠ a := fun z => h1 (z ▸ hx)
      exact (List.mem_erase_of_ne ne).mpr (h x (List.mem_cons_of_mem _ hx))
    rw [List.length_erase_of_mem ha] at this
    have := List.length_pos_of_mem ha
    rw [List.length_cons]
    omega
theorem fstIn_dj {R W : List (List Nat)} (dj : ∀ w, w ∈ R → w ∉ W) : fstIn R W = none := fstIn_none fun j hj => dj _ (List.getElem_mem hj)
theorem fstIn_snoc {R W : List (List Nat)} {w : List Nat} (dj : ∀ u, u ∈ R → u ∉ W) (h : w ∈ W) : fstIn (R ++ [w]) W = some w := by
  refine fstIn_at (i := R.length) (fun j hj lt => ?_) (by rw [List.getElem?_append_right (Nat.le_refl _)]; simp) h
  rw [List.getElem_append_left lt]
  exact dj _ (List.getElem_mem lt)
theorem fstIn_snoc2 {R W : List (List Nat)} {w : List Nat} (dj : ∀ u, u ∈ R → u ∉ W) : (fstIn (R ++ [w]) W).getD w = w := by
  by_cases h : w ∈ W
  · rw [fstIn_snoc dj h]; rfl
  · rw [fstIn_dj fun u hu => by
      rcases List.mem_append.mp hu with z | z
      · exact dj u z
      · rw [List.mem_singleton.mp z]; exact h]
    rfl
/-- the beginnings of a word -/
theorem one_len {full : List (List Nat)} {w : List Nat} (so : SortedW full) (me : ∀ u, u ∈ full ↔ Beg ([w] ++ []) u) : full.length = w.length + 1 := by
  have nd : ((List.range (w.length + 1)).map w.take).Nodup := by
    refine List.pairwise_map.mpr ((List.nodup_range (n := w.length + 1)).imp_of_mem fun {i j} hi hj ne e => ne ?_)
    have := congrArg List.length e
    rw [List.length_take, List.length_take] at this
    rw [List.mem_range] at hi hj
    omega
  have mm : ∀ u, u ∈ full ↔ u ∈ (List.range (w.length + 1)).map w.take := fun u => by
    rw [me u, List.mem_map]
    constructor
    · rintro (rfl | ⟨x, hx, p⟩)
      · exact ⟨0, by simp, by simp⟩
      · simp at hx
        subst hx
        exact ⟨u.length, by rw [List.mem_range]; have := p.length_le; omega, (List.prefix_iff_eq_take.mp p).symm⟩
    · rintro ⟨i, hi, rfl⟩
      exact .inr ⟨w, by simp, List.take_prefix _ _⟩
  have := (List.perm_ext_iff_of_nodup so.nodup nd |>.mpr mm).length_eq
  rw [List.length_map, List.length_range] at this
  exact this
theorem few13 {full S : List (List Nat)} (so : SortedW full) (me : ∀ u, u ∈ full ↔ Beg S u) (l3 : ∀ w ∈ S, w.length ≤ 3) : full.length ≤ 1 + 3 * S.length := by
  have := nodup_le (m := [] :: S.flatMap fun w => [w.take 1, w.take 2, w.take 3]) so.nodup fun u hu => by
    rcases (me u).mp hu with rfl | ⟨x, hx, p⟩
    · exact List.mem_cons_self
    · by_cases c : u = []
      · rw [c]; exact List.mem_cons_self
      · refine List.mem_cons_of_mem _ (List.mem_flatMap.mpr ⟨x, hx, ?_⟩)
        have e := List.prefix_iff_eq_take.mp p
        have l1 := p.length_le
        have l2 := l3 x hx
        have l0 : u.length ≠ 0 := fun z => c (List.length_eq_zero_iff.mp z)
        have : u.length = 1 ∨ u.length = 2 ∨ u.length = 3 := by omega
        rcases this with h | h | h <;> rw [h] at e <;> rw [e] <;> simp
  rw [List.length_cons] at this
  have e : ∀ T : List (List Nat), (T.flatMap fun w => [w.take 1, w.take 2, w.take 3]).length = 3 * T.length := by
    intro T
    induction T with
    | nil => rfl
    | cons a T ih => rw [List.flatMap_cons, List.length_append, ih]; simp; omega
  rw [e] at this
  omega
def fif : List (List Nat) := [[], [0], [1], [0, 0], [0, 1], [1, 0], [1, 1], [0, 0, 0], [0, 0, 1], [0, 1, 0], [0, 1, 1], [1, 0, 0], [1, 0, 1], [1, 1, 0], [1, 1, 1]]
theorem two {c : Nat} (h : c < 2) : c = 0 ∨ c = 1 := by omega
theorem fif_of {w : List Nat} (l : w.length ≤ 3) (b : ∀ c ∈ w, c < 2) : w ∈ fif := by
  match w, l, b with
  | [], _, _ => simp [fif]
  | [a], _, b =>
    have ha := two (b a (by simp))
    rcases ha with rfl | rfl <;> simp [fif]
  | [a, c], _, b =>
    have ha := two (b a (by simp))
    have hc := two (b c (by simp))
    rcases ha with rfl | rfl <;> rcases hc with rfl | rfl <;> simp [fif]
  | [a, c, e], _, b =>
    have ha := two (b a (by simp))
    have hc := two (b c (by simp))
    have he := two (b e (by simp))
    rcases ha with rfl | rfl <;> rcases hc with rfl | rfl <;> rcases he with rfl | rfl <;> simp [fif]
  | a :: c :: e :: f :: r, l, _ => simp at l
theorem beg_bin {S full : List (List Nat)} (me : ∀ w, w ∈ full ↔ Beg S w) (b : Bin S) : Bin full := fun w hw c hc => by
  rcases (me w).mp hw with rfl | ⟨x, hx, p⟩
  · cases hc
  · exact b x hx c (p.subset hc)
theorem beg_len {S full : List (List Nat)} {n : Nat} (me : ∀ w, w ∈ full ↔ Beg S w) (b : ∀ w ∈ S, w.length ≤ n) : ∀ w ∈ full, w.length ≤ n := fun w hw => by
  rcases (me w).mp hw with rfl | ⟨x, hx, p⟩
  · exact Nat.zero_le _
  · exact Nat.le_trans p.length_le (b x hx)
theorem few15 {full S : List (List Nat)} (so : SortedW full) (me : ∀ u, u ∈ full ↔ Beg S u) (l3 : ∀ w ∈ S, w.length ≤ 3) (b : Bin S) : full.length ≤ 15 :=
  nodup_le (m := fif) so.nodup fun u hu => fif_of (beg_len me l3 u hu) (beg_bin me b u hu)
theorem sum_le {n : Nat} : ∀ {l : List (List Nat)}, (∀ w ∈ l, w.length ≤ n) → (l.map List.length).sum ≤ n * l.length
  | [], _ => by simp
  | w :: l, h => by
    have := sum_le (l := l) fun x m => h x (List.mem_cons_of_mem _ m)
    have := h w List.mem_cons_self
    rw [List.map_cons, List.sum_cons, List.length_cons, Nat.mul_succ]
    omega
def rot (R : List (List Nat)) : List (List Nat) := R.drop 1 ++ R.take 1
theorem rot_mem {R : List (List Nat)} {w : List Nat} : w ∈ rot R ↔ w ∈ R := by
  unfold rot
  rw [List.mem_append]
  constructor
  · rintro (h | h)
    · exact List.mem_of_mem_drop h
    · exact List.mem_of_mem_take h
  · intro h
    rw [← List.take_append_drop 1 R] at h
    exact (List.mem_append.mp h).symm
theorem rot_len (R : List (List Nat)) : (rot R).length = R.length := by unfold rot; rw [List.length_append, List.length_drop, List.length_take]; omega
theorem rot_smp {R W : List (List Nat)} (x : List Nat × Nat) : x ∈ smp R W ↔ x ∈ smp (rot R) (rot W) := by rw [smp_mem, smp_mem, rot_mem, rot_mem]
theorem rot_beg {R W : List (List Nat)} (w : List Nat) : Beg (rot R ++ rot W) w ↔ Beg (R ++ W) w := by
  unfold Beg
  simp only [List.mem_append, rot_mem]
/-- what the law's drawn samples are -/
structure Smp (R W : List (List Nat)) (n : Nat) : Prop where
  bR : Bin R
  bW : Bin W
  dj : ∀ w, w ∈ R → w ∉ W
  l3 : ∀ w ∈ R ++ W, w.length ≤ 3
  cnt : R.length + W.length ≤ n
theorem Smp.sum {R W : List (List Nat)} {n : Nat} (h : Smp R W n) (hn : n ≤ 9) : ((R ++ W).map List.length).sum ≤ 900 := by
  have := sum_le h.l3
  rw [List.length_append] at this
  have := h.cnt
  omega
theorem Smp.bin {R W : List (List Nat)} {n : Nat} (h : Smp R W n) : Bin (R ++ W) := fun w hw => (List.mem_append.mp hw).elim (h.bR w) (h.bW w)
theorem Smp.rot {R W : List (List Nat)} {n : Nat} (h : Smp R W n) : Smp (Toy.rot R) (Toy.rot W) n :=
  ⟨fun w m => h.bR w (rot_mem.mp m), fun w m => h.bW w (rot_mem.mp m), fun w m z => h.dj w (rot_mem.mp m) (rot_mem.mp z), fun w m => h.l3 w (by simpa [List.mem_append, rot_mem] using m), by rw [rot_len, rot_len]; exact h.cnt⟩
/-- how many samples where so many rows are let -/
def okN (most n : Nat) : Prop := 1 ≤ most ∧ most ≤ 3 ∧ n ≤ 9 ∧ 1 ≤ n ∧ (most = 3 → n ≤ 4)
theorem Smp.cost {R W full : List (List Nat)} {n most : Nat} (h : Smp R W n) (o : okN most n) (so : SortedW full) (me : ∀ u, u ∈ full ↔ Beg (R ++ W) u) : full.length ≤ 24 ∧ costN most full.length ≤ 3000 := by
  obtain ⟨o1, o2, o3, _, o4⟩ := o
  have f15 := few15 so me h.l3 h.bin
  have : most = 1 ∨ most = 2 ∨ most = 3 := by omega
  refine ⟨by omega, ?_⟩
  rcases this with rfl | rfl | rfl
  · exact cost1 _ (by omega)
  · exact cost2 _ (by omega)
  · have := few13 so me h.l3
    rw [List.length_append] at this
    have := h.cnt
    exact cost3 _ (by omega)
theorem Smp.few {R W full : List (List Nat)} {n most : Nat} (h : Smp R W n) (o : okN most n) (so : SortedW full) (me : ∀ u, u ∈ full ↔ Beg (R ++ W) u) : FewOk R W full most (fewF R W full most) :=
  few_ok (beg_pre so me (by have := (h.cost o so me).1; omega)) (beg_bin me h.bin) me h.bR h.bW o.1 o.2.1
/-- the law's number of rows -/
def DueOk (R W : List (List Nat)) (most : Nat) (v : V) : Prop := (v = .non ∧ ∀ j, 1 ≤ j → j ≤ most → ¬ Fits j (smp R W) k0) ∨
  ∃ m : Nat, v = .int (m : Int) ∧ 1 ≤ m ∧ m ≤ most ∧ Fits m (smp R W) k0 ∧ ∀ j, 1 ≤ j → j < m → ¬ Fits j (smp R W) k0
theorem due_an {R W full : List (List Nat)} {most : Nat} {v : V} {an : An} (h : DueOk R W most v) (f : FewOk R W full most an) : (v = .non ∧ ∃ b, an = .more b) ∨ ∃ l b, v = .int ((l.length : Nat) : Int) ∧ an = .few l b ∧ fullB l = true ∧ fitsB l R W = true := by
  rcases h with ⟨rfl, nf⟩ | ⟨m, rfl, m1, m2, fm, nf⟩
  · cases an with
    | more b => exact .inl ⟨rfl, b, rfl⟩
    | few l b => exact absurd f.2.2.2.1 (nf _ f.1 f.2.1)
  · cases an with
    | more b => exact absurd fm (f.1 _ m1 m2)
    | few l b =>
      have : l.length = m := by
        by_cases c : l.length < m
        · exact absurd f.2.2.2.1 (nf _ f.1 c)
        · by_cases d : m < l.length
          · exact absurd fm (f.2.2.1 _ m1 d)
          · omega
      exact .inr ⟨l, b, by rw [this], rfl, f.2.2.2.2.1, f.2.2.2.2.2.1⟩
end Toy

set_option Elab.async false
set_option linter.all false
set_option maxRecDepth 100000
set_option maxHeartbeats 4000000
namespace Toy
open PySem L2
def spLaw (K : PySem.W.Frag) : Sp := fun vs H Q _ => ∃ (a : Addr) (ns : List Int), vs = [.ref a] ∧ SqL K H a (ns.map V.int) ∧ ns.length ≤ 63 ∧ ∀ H', Q (.bl true) H'
/-- what the law keeps of the first samples -/
def FirstOk (H : Hp) (v : V) : Prop := ∃ R W full, DV H v (.tup [.tup (R.map wd), .tup (W.map wd), (fewF R W full 3).da]) ∧ Smp R W 4 ∧ SortedW full ∧ (∀ u, u ∈ full ↔ Beg (R ++ W) u)
theorem FirstOk.mono {H H' : Hp} {v : V} (t : Tups H H') (h : FirstOk H v) : FirstOk H' v := by
  obtain ⟨R, W, full, d, r⟩ := h
  exact ⟨R, W, full, d.mono t, r⟩
section
variable {P : Program} {w : World} {K : PySem.W.Frag} {mg : Str → Option Value} {base : Heap} {CR CT CF CL fL cL dL CC fC cC dC : Addr}
abbrev s_law : Stmt := top 36
theorem sc_law : FnScope ["script", "d", "first", "most", "many", "right", "wrong", "due", "answer", "turned", "both", "long", "k"] ["script"] (defScope s_law) := ⟨rfl, rfl, rfl, by decide +kernel, rfl, by decide +kernel, by decide +kernel⟩

theorem ok_law {l : Nat} (hl : 35 ≤ l) {f : Addr} {fd : FuncData} (F : Fun K "law" "law" s_law f fd) (T : Tx P K mg CR CT CF CL fL cL dL CC fC cC dC) (C__law_begin : CalX P w K mg base CX0 1 "_law_begin" (spBegin K)) (C__law_samples : CalX P w K mg base CX0 3 "_law_samples" (spSamples 100)) (C__law_draw : CalX P w K mg base CX0 1 "_law_draw" spDraw)
    (C__law_least : CalX P w K mg base CX0 9 "_law_least" spLeast) (C_fewest : CalX P w K mg base (L2.CX P w) l "fewest" (spFewest CL CC)) (C_judge_fewest : CalX P w K mg base CX0 35 "judge_fewest" (spJudge 30)) (C__law_fits : CalX P w K mg base CX0 2 "_law_fits" spLFits) (C__law_first_in : CalX P w K mg base CX0 1 "_law_first_in" spFirst)
    (C__law_refusal : CalX P w K mg base CX0 (l + 1) "_law_refusal" spRefusal) : FnOk P w K mg base CX0 (l + 2) f fd ["script"] (spLaw K) := by
  refine F.ok sc_law (fun vs H Q E h => ?_) (fun cdv A outer s H vs Q E hr h => ?_)
  · obtain ⟨a, ns, rfl, _⟩ := h
    rfl
  obtain ⟨a, ns, rfl, hS, hlen, kk⟩ := h
  have hr : Room (l + 1) _ := hr
  refine ⟨_, (pss_cons (ps_set (i := 1) sc_law.nd rfl (Or.inr rfl) (pe_u C__law_begin hr (by omega) pass0 (pa_cons (pv 0) pa_nil)))
    (pss_cons (ps_set (i := 2) sc_law.nd rfl (Or.inl rfl) pe_non)
    (pss_cons (ps_for PassesOwn.never rfl (pi_list (pe_lst (pa_cons (pe_tup (pa_cons pe_int (pa_cons pe_int pa_nil))) (pa_cons (pe_tup (pa_cons pe_int (pa_cons pe_int pa_nil))) (pa_cons (pe_tup (pa_cons pe_int (pa_cons pe_int pa_nil))) pa_nil))))) (pg_tup (by rfl) (pgs_cons (pg_name (i := 3) sc_law.nd rfl (Or.inl rfl)) (pgs_cons (pg_name (i := 4) sc_law.nd rfl (Or.inl rfl)) pgs_nil))) (pss_cons (ps_asg (pe_u C__law_samples hr (by omega) pass0 (pa_cons (pv 1) (pa_cons (pv 4) pa_nil))) (pg_tup (by rfl) (pgs_cons (pg_name (i := 5) sc_law.nd rfl (Or.inl rfl)) (pgs_cons (pg_name (i := 6) sc_law.nd rfl (Or.inl rfl)) pgs_nil))))
    (C8.pss_cut (ps_set (i := 7) sc_law.nd rfl (Or.inl rfl) (pe_u C__law_least hr (by omega) pass0 (pa_cons (pv 5) (pa_cons (pv 6) (pa_cons (pv 3) pa_nil)))))
    (pss_cons (ps_set (i := 8) sc_law.nd rfl (Or.inl rfl) (pe_u C_fewest hr (by omega) passL (pa_cons pe_int (pa_cons (pv 5) (pa_cons (pv 6) (pa_cons (pv 3) pa_nil))))))
    (pss_cons (ps_if (pt_not (pt_val (pe_u C_judge_fewest hr (by omega) pass0 (pa_cons pe_int (pa_cons (pv 5) (pa_cons (pv 6) (pa_cons (pv 3) (pa_cons (pv 8) pa_nil)))))))) (pss_one (ps_ret pe_bl)) pss_nil)
    (C8.pss_cut (ps_if (pt_cmpR op_isN (pv 7) pe_non (nomark _)) (pss_one (ps_if (PW.pt (pw_or (pt_cmpR op_ne (pe_ix ix_tup (pv 8) pe_int (fun _ _ => rfl)) pe_str (nomark _)) (pw_or1 (pt_cmpR op_ne (pe_callB call_len_seq (by rfl) T.z_len b_len (pa_cons (pv 8) pa_nil)) pe_int (nomark _))))) (pss_one (ps_ret pe_bl)) pss_nil)) (pss_one (ps_if (PW.pt (pw_or (pt_cmpR op_ne (pe_ix ix_tup (pv 8) pe_int (fun _ _ => rfl)) pe_str (nomark _)) (pw_or (pt_cmpR op_ne (pe_callB call_len_seq (by rfl) T.z_len b_len (pa_cons (pe_ix ix_tup (pv 8) pe_int (fun _ _ => rfl)) pa_nil)) (pv 7) (nomark _)) (pw_or1 (pt_not (pt_val (pe_u C__law_fits hr (by omega) pass0 (pa_cons (pe_ix ix_tup (pv 8) pe_int (fun _ _ => rfl)) (pa_cons (pv 5) (pa_cons (pv 6) pa_nil)))))))))) (pss_one (ps_ret pe_bl)) pss_nil)))
    (pss_cons (ps_set (i := 9) sc_law.nd rfl (Or.inl rfl) (pe_u C_fewest hr (by omega) passL (pa_cons pe_int (pa_cons (pe_op op_catB (pe_slice sl_tupB (pv 5) (po_some pe_int) po_none) (pe_slice sl_tupB (pv 5) po_none (po_some pe_int))) (pa_cons (pe_op op_catB (pe_slice sl_tupB (pv 6) (po_some pe_int) po_none) (pe_slice sl_tupB (pv 6) po_none (po_some pe_int))) (pa_cons (pv 3) pa_nil))))))
    (C8.pss_cut (ps_if (PW.pt (pw_or (pt_cmpR op_ne (pe_ix ix_tup (pv 9) pe_int (fun _ _ => rfl)) (pe_ix ix_tup (pv 8) pe_int (fun _ _ => rfl)) (nomark _)) (pw_or1 (PW.pt (pw_and (pt_cmpR op_notN (pv 7) pe_non (nomark _)) (pw_and1 (pt_cmpR op_ne (pe_callB call_len_seq (by rfl) T.z_len b_len (pa_cons (pe_ix ix_tup (pv 9) pe_int (fun _ _ => rfl)) pa_nil)) (pv 7) (nomark _)))))))) (pss_one (ps_ret pe_bl)) pss_nil)
    (C8.pss_cut (ps_if (pt_cmpR op_isN (pv 2) pe_non (nomark _)) (pss_one (ps_set (i := 2) sc_law.nd rfl (Or.inl rfl) (pe_tup (pa_cons (pv 5) (pa_cons (pv 6) (pa_cons (pv 8) pa_nil)))))) pss_nil)
    (pss_cons (ps_set (i := 10) sc_law.nd rfl (Or.inl rfl) (pe_op op_catB (pv 5) (pe_tup (pa_cons (pe_tup (pa_cons pe_int (pa_cons pe_int (pa_cons pe_int pa_nil)))) pa_nil))))
    (pss_one (ps_if (PW.pt (pw_and (pt_cmpR (op_niA (hu_a hr)) (pe_tup (pa_cons pe_int (pa_cons pe_int (pa_cons pe_int pa_nil)))) (pv 5) rfl) (pw_and1 (pt_cmpR (op_neA (hu_a hr)) (pe_u C__law_refusal hr (by omega) pass0 (pa_cons (pv 10) (pa_cons (pe_op op_catB (pv 6) (pe_tup (pa_cons (pe_tup (pa_cons pe_int (pa_cons pe_int (pa_cons pe_int pa_nil)))) pa_nil))) pa_nil))) (pe_tup (pa_cons pe_str (pa_cons (pe_u C__law_first_in hr (by omega) pass0 (pa_cons (pv 10) (pa_cons (pv 6) pa_nil))) pa_nil))) (nomark _))))) (pss_one (ps_ret pe_bl)) pss_nil))))))))))))
    (pss_cons (ps_if (pt_cmpR (op_neA (hu_a hr)) (pe_u C_fewest hr (by omega) passL (pa_cons pe_int (pa_cons (pe_ix ix_tup (pv 2) pe_int (fun _ _ => rfl)) (pa_cons (pe_ix ix_tup (pv 2) pe_int (fun _ _ => rfl)) (pa_cons pe_int pa_nil))))) (pe_ix ix_tup (pv 2) pe_int (fun _ _ => rfl)) (nomark _)) (pss_one (ps_ret pe_bl)) pss_nil)
    (pss_cons (ps_set (i := 11) sc_law.nd rfl (Or.inl rfl) (pe_callTy call_tuple_of (by rfl) T.z_tuple b_tuple (pa_cons (pe_lc (own := [("k", 12)]) (g := gName 12) (by rfl) sc_law.nd (pi_range1 (by rfl) T.z_range (pa_cons pe_int pa_nil)) (blkOk_by (own := [("k", 12)]) (N := ["script", "d", "first", "most", "many", "right", "wrong", "due", "answer", "turned", "both", "long", "k"]) (sc := defScope s_law) (by decide +kernel)) (fun _ _ _ _ _ => pg_name (i := 12) sc_law.nd rfl (Or.inl rfl)) (fun _ _ _ _ _ => pts_nil) (fun _ _ _ _ _ => (pe_u C__law_draw hr (by omega) pass0 (pa_cons (pv 1) (pa_cons pe_int pa_nil))))) pa_nil)))
    (pss_cons (ps_if (PW.pt (pw_or (pt_cmpR (op_neA (hu_a hr)) (pe_u C__law_refusal hr (by omega) pass0 (pa_cons (pe_tup (pa_cons (pv 11) pa_nil)) (pa_cons (pe_tup pa_nil) pa_nil))) (pe_tup (pa_cons pe_str (pa_cons pe_non pa_nil))) (nomark _)) (pw_or1 (pt_cmpR (op_neA (hu_a hr)) (pe_u C__law_refusal hr (by omega) pass0 (pa_cons (pe_tup (pa_cons (pe_op op_catB (pv 11) (pe_tup (pa_cons pe_int pa_nil))) pa_nil)) (pa_cons (pe_tup pa_nil) pa_nil))) (pe_tup (pa_cons pe_str (pa_cons pe_str pa_nil))) (nomark _))))) (pss_one (ps_ret pe_bl)) pss_nil)
    (pss_one (ps_ret (pe_cmpR (op_eqA (hu_a hr)) (pe_u C__law_refusal hr (by omega) pass0 (pa_cons (pe_tup (pa_cons (pe_op op_catB (pv 11) (pe_tup (pa_cons pe_int pa_nil))) pa_nil)) (pa_cons (pe_tup (pa_cons (pe_op op_catB (pv 11) (pe_tup (pa_cons pe_int pa_nil))) pa_nil)) pa_nil))) (pe_tup (pa_cons pe_str (pa_cons (pe_op op_catB (pv 11) (pe_tup (pa_cons pe_int pa_nil))) pa_nil))) (nomark _)))))))))), ?_⟩
  refine ⟨_, rfl, a, ns, rfl, hS, hlen, fun d sc ms H1 s1 D1 => ?_⟩
  refine ⟨by show 2 ≤ sizeLine; decide, fun t1 ht1 => ⟨by show 2 ≤ sizeLine; decide, fun t2 ht2 => ⟨by show 2 ≤ sizeLine; decide, fun t3 ht3 => ⟨by show 3 ≤ sizeLine; decide, fun D hD => ?_⟩⟩⟩⟩
  have n12 : t1 ≠ t2 := fun z => by rw [← z, upd_same] at ht2; cases ht2
  have n13 : t1 ≠ t3 := fun z => by rw [← z, upd_ne n12, upd_same] at ht3; cases ht3
  have n23 : t2 ≠ t3 := fun z => by rw [← z, upd_same] at ht3; cases ht3
  have n1D : t1 ≠ D := fun z => by rw [← z, upd_ne n13, upd_ne n12, upd_same] at hD; cases hD
  have n2D : t2 ≠ D := fun z => by rw [← z, upd_ne n23, upd_same] at hD; cases hD
  have n3D : t3 ≠ D := fun z => by rw [← z, upd_same] at hD; cases hD
  obtain ⟨H2, eH2⟩ : ∃ H2, H2 = upd (upd (upd (upd H1 t1 (.tup [.int 3, .int 4])) t2 (.tup [.int 2, .int 9])) t3 (.tup [.int 1, .int 9])) D (.lst [.ref t1, .ref t2, .ref t3]) := ⟨_, rfl⟩
  have s2 : Same H1 H2 := by rw [eH2]; exact (((Same.upd ht1).trans (Same.upd ht2)).trans (Same.upd ht3)).trans (Same.upd hD)
  have g1 : H2 t1 = some (.tup [.int 3, .int 4]) := by rw [eH2, upd_ne n1D, upd_ne n13, upd_ne n12, upd_same]
  have g2 : H2 t2 = some (.tup [.int 2, .int 9]) := by rw [eH2, upd_ne n2D, upd_ne n23, upd_same]
  have g3 : H2 t3 = some (.tup [.int 1, .int 9]) := by rw [eH2, upd_ne n3D, upd_same]
  have gD : H2 D = some (.lst [.ref t1, .ref t2, .ref t3]) := by rw [eH2, upd_same]
  rw [← eH2]
  have D2 := D1.same s2
  have Dd : D ≠ d := fun z => by
    obtain ⟨i, ff, gg, _, e1, _⟩ := D2
    rw [z, e1] at gD
    have := HO.lst.inj (Option.some.inj gD)
    simp at this
  refine ⟨D, rfl, ⟨_, SqL.of gD⟩, for_list (K := K) (a := D) (xs := [V.ref t1, .ref t2, .ref t3]) (fun i σ H' => Keep d H2 H' ∧ Dr H' d sc ms ∧ ∃ vf g3 g4 g5 g6 g7 g8 g9 g10 g11, σ = [some (.ref a), some (.ref d), some vf, g3, g4, g5, g6, g7, g8, g9, g10, g11, none] ∧ (i = 0 → vf = .non) ∧ (0 < i → ∃ fp, vf = .ref fp ∧ FirstOk H' vf))
    ⟨.refl _ _, D2, _, _, _, _, _, _, _, _, _, _, rfl, fun _ => rfl, fun z => absurd z (Nat.lt_irrefl _)⟩ (fun i σ H' _ h => SqL.of (h.1 _ _ Dd gD)) (fun i x σ H' hx h => ?_) (fun σ H' h => ?_)⟩
  · obtain ⟨K3, D3, vf, q3, q4, q5, q6, q7, q8, q9, q10, q11, rfl, v0, v1⟩ := h
    have tpK := D2.tups K3
    obtain ⟨tt, most, many, rfl, htt, okn, i3⟩ : ∃ (tt : Addr) (most many : Nat), x = .ref tt ∧ H' tt = some (.tup [.int ((most : Nat) : Int), .int ((many : Nat) : Int)]) ∧ okN most many ∧ (i = 0 → most = 3 ∧ many = 4) := by
      rcases i with _ | _ | _ | i
      · obtain rfl : V.ref t1 = x := by simpa using hx
        exact ⟨t1, 3, 4, rfl, tpK _ _ g1, ⟨by decide, by decide, by decide, by decide, fun _ => by decide⟩, fun _ => ⟨rfl, rfl⟩⟩
      · obtain rfl : V.ref t2 = x := by simpa using hx
        exact ⟨t2, 2, 9, rfl, tpK _ _ g2, ⟨by decide, by decide, by decide, by decide, fun z => by omega⟩, fun z => by omega⟩
      · obtain rfl : V.ref t3 = x := by simpa using hx
        exact ⟨t3, 1, 9, rfl, tpK _ _ g3, ⟨by decide, by decide, by decide, by decide, fun z => by omega⟩, fun z => by omega⟩
      · simp at hx
    have okn' := okn
    obtain ⟨m1, m3, n9, n1, _⟩ := okn'
    refine ⟨tt, _, rfl, SqT.of htt, rfl, _, _, rfl, _, _, rfl, rfl, ?_⟩
    refine ⟨_, rfl, _, rfl, d, sc, ms, many, rfl, D3, by omega, by omega, fun v H3 R W k3 D4 dv bR bW dj l3 cnt => ?_⟩
    obtain ⟨c, cr, cw, rs, us, rfl, hc, hcr, hcw, hrs, hus⟩ := samp_inv dv
    refine ⟨c, _, rfl, SqT.of hc, rfl, _, _, rfl, _, _, rfl, rfl, ?_⟩
    have SM : Smp R W many := ⟨bR, bW, dj, l3, cnt⟩
    have dR : DV H3 (.ref cr) (.tup (R.map wd)) := .tup hcr hrs
    have dW : DV H3 (.ref cw) (.tup (W.map wd)) := .tup hcw hus
    have K4 := K3.trans k3
    have cnt9 : R.length + W.length ≤ 900 := by omega
    have hsum := SM.sum n9
    refine ⟨fun σ' H4 => ∃ vd, σ' = [some (.ref a), some (.ref d), some vf, some (.int ((most : Nat) : Int)), some (.int ((many : Nat) : Int)), some (.ref cr), some (.ref cw), some vd, q8, q9, q10, q11, none] ∧ Same H3 H4 ∧ DueOk R W most vd, ?_, ?_⟩
    · refine ⟨_, rfl, _, rfl, _, rfl, _, _, R, W, most, rfl, dR, dW, bR, bW, cnt9, m1, m3, fun H4 s4 nf => ?_, fun mm H4 s4 h1 h2 h3 h4 => ?_⟩
      · exact ⟨_, rfl, s4, .inl ⟨rfl, nf⟩⟩
      · exact ⟨_, rfl, s4, .inr ⟨mm, rfl, h1, h2, h3, h4⟩⟩
    · rintro σ' H4 ⟨vd, rfl, s4, due⟩
      refine ⟨_, rfl, _, rfl, _, rfl, _, _, R, W, most, rfl, dR.mono (same_tp s4), dW.mono (same_tp s4), bR, bW, hsum, cnt9, m1, m3, fun w0 ew => ?_, fun _ full so me => .inr ⟨(SM.cost okn so me).1, (SM.cost okn so me).2, fun va H5 s5 dva => ?_⟩⟩
      · rw [fstIn_dj dj] at ew; cases ew
      have fo := SM.few okn so me
      have f24 := (SM.cost okn so me).1
      obtain ⟨an, ean⟩ : ∃ an, an = fewF R W full most := ⟨_, rfl⟩
      rw [← ean] at dva fo
      have s35 := s4.trans s5
      refine ⟨_, rfl, _, rfl, _, rfl, _, rfl, _, _, _, R, W, an, full, most, rfl, dR.mono (same_tp s35), dW.mono (same_tp s35), dva, so, me, by omega, by decide, bR, bW, hsum, cnt9, fun H6 s6 => ⟨_, rfl, ?_⟩⟩
      rw [few_judge fo]
      refine ifF (by decide) ?_
      have s36 := s35.trans s6
      have dva6 := dva.mono (same_tp s6)
      have hsz := small1000 (n := 10) (by decide)
      refine ⟨fun σ' H7 => σ' = [some (.ref a), some (.ref d), some vf, some (.int ((most : Nat) : Int)), some (.int ((many : Nat) : Int)), some (.ref cr), some (.ref cw), some vd, some va, q9, q10, q11, none] ∧ Same H6 H7, ?_, ?_⟩
      · rcases due_an due fo with ⟨rfl, b, rfl⟩ | ⟨lw, b, rfl, rfl, fb, ff⟩
        · obtain ⟨ap, xs, rfl, hap, hxs⟩ := (show DV H6 va (.tup [.str "more", b.da]) from dva6).inv
          cases hxs with
          | cons h1 h2 =>
            cases h2 with
            | cons h3 h4 =>
              cases h4
              cases h1
              refine ⟨_, rfl, rfl, _, rfl, ifT rfl ?_⟩
              refine ⟨_, rfl, ap, _, _, _, rfl, rfl, SqT.of hap, rfl, rfl, _, rfl, ifF (by decide +kernel) ?_⟩
              exact ⟨_, rfl, ap, _, rfl, .inr (SqT.of hap), rfl, _, rfl, ifF (by simp) ⟨rfl, Same.refl _⟩⟩
        · obtain ⟨ap, xs, rfl, hap, hxs⟩ := (show DV H6 va (.tup [.str "fewest", rwsD lw, b.da]) from dva6).inv
          cases hxs with
          | cons h1 h2 =>
            cases h2 with
            | cons h3 h4 =>
              cases h1
              obtain ⟨lp, lv, rfl, hlp, hlv⟩ := h3.inv
              have ll := hlv.length
              rw [List.length_map] at ll
              refine ⟨_, rfl, rfl, _, rfl, ifF (by simp) ?_⟩
              refine ⟨_, rfl, ap, _, _, _, rfl, rfl, SqT.of hap, atI_nat (j := 0) rfl, rfl, _, rfl, ifF (by decide +kernel) ?_⟩
              refine ⟨_, rfl, ap, _, _, _, rfl, rfl, SqT.of hap, atI_nat (j := 1) rfl, lp, _, rfl, .inr (SqT.of hlp), _, rfl, rfl, _, rfl, ifF (by rw [ll]; simp) ?_⟩
              exact ⟨_, rfl, ap, _, _, _, rfl, rfl, SqT.of hap, atI_nat (j := 1) rfl, _, rfl, _, rfl, _, _, _, lw, R, W, rfl, h3, dR.mono (same_tp s36), dW.mono (same_tp s36), bR, bW, fb, ff, fun H7 s7 => ⟨_, rfl, ifF (by decide) ⟨rfl, s7⟩⟩⟩
      · rintro σ' H7 ⟨rfl, s67⟩
        have s37 := s36.trans s67
        have dva7 := dva6.mono (same_tp s67)
        refine ⟨_, rfl, _, rfl, cr, _, rfl, s37 _ _ hcr, fun b1 H8 s8 hb1 => ⟨_, rfl, _, rfl, cr, _, rfl, s8 _ _ (s37 _ _ hcr), fun b2 H9 s9 hb2 => ?_⟩⟩
        rw [show (1 : Int) = ((1 : Nat) : Int) by rfl, cutV_from] at hb1
        rw [show (1 : Int) = ((1 : Nat) : Int) by rfl, cutV_to] at hb2
        have hrl := hrs.length
        have hul := hus.length
        rw [List.length_map] at hrl hul
        refine ⟨b1, b2, _, _, rfl, rfl, s9 _ _ hb1, hb2, by rw [List.length_drop, List.length_take]; exact Nat.le_of_lt (small1000 (by omega)), fun p1 H10 s10 hp1 => ?_⟩
        have s310 := ((s37.trans s8).trans s9).trans s10
        refine ⟨_, rfl, _, rfl, cw, _, rfl, s310 _ _ hcw, fun b3 H11 s11 hb3 => ⟨_, rfl, _, rfl, cw, _, rfl, s11 _ _ (s310 _ _ hcw), fun b4 H12 s12 hb4 => ?_⟩⟩
        rw [show (1 : Int) = ((1 : Nat) : Int) by rfl, cutV_from] at hb3
        rw [show (1 : Int) = ((1 : Nat) : Int) by rfl, cutV_to] at hb4
        refine ⟨b3, b4, _, _, rfl, rfl, s12 _ _ hb3, hb4, by rw [List.length_drop, List.length_take]; exact Nat.le_of_lt (small1000 (by omega)), fun p2 H13 s13 hp2 => ?_⟩
        have s1013 := (s11.trans s12).trans s13
        have s313 := s310.trans s1013
        have dR' : DV H13 (.ref p1) (.tup ((rot R).map wd)) := by
          refine .tup (s1013 _ _ hp1) ?_
          unfold rot
          rw [List.map_append, List.map_drop, List.map_take]
          have := hrs.mono (same_tp s313)
          exact (this.drop 1).append (this.take 1)
        have dW' : DV H13 (.ref p2) (.tup ((rot W).map wd)) := by
          refine .tup hp2 ?_
          unfold rot
          rw [List.map_append, List.map_drop, List.map_take]
          have := hus.mono (same_tp s313)
          exact (this.drop 1).append (this.take 1)
        have SM' := SM.rot
        refine ⟨_, rfl, _, _, rot R, rot W, most, rfl, dR', dW', SM'.bR, SM'.bW, SM'.sum n9, by rw [rot_len, rot_len]; exact cnt9, m1, m3, fun w0 ew => ?_, fun _ full' so' me' => .inr ⟨(SM'.cost okn so' me').1, (SM'.cost okn so' me').2, fun vt H14 s14 dvt => ?_⟩⟩
        · rw [fstIn_dj SM'.dj] at ew; cases ew
        have fo' := SM'.few okn so' me'
        obtain ⟨an', ean'⟩ : ∃ an', an' = fewF (rot R) (rot W) full' most := ⟨_, rfl⟩
        rw [← ean'] at dvt fo'
        have fl := few_len fo fo' rot_smp
        have s714 : Same H7 H14 := ((((s8.trans s9).trans s10).trans s1013)).trans s14
        have s314 := s313.trans s14
        have dva14 := dva7.mono (same_tp s714)
        refine ⟨fun σ' H15 => σ' = [some (.ref a), some (.ref d), some vf, some (.int ((most : Nat) : Int)), some (.int ((many : Nat) : Int)), some (.ref cr), some (.ref cw), some vd, some va, some vt, q10, q11, none] ∧ H15 = H14, ?_, ?_⟩
        · rcases due_an due fo with ⟨rfl, b, rfl⟩ | ⟨lw, b, rfl, rfl, fb, ff⟩
          · cases an' with
            | few _ _ => cases fl
            | more b' =>
              obtain ⟨ap, xs, rfl, hap, hxs⟩ := (show DV H14 va (.tup [.str "more", b.da]) from dva14).inv
              obtain ⟨tp, ys, rfl, htp, hys⟩ := (show DV H14 vt (.tup [.str "more", b'.da]) from dvt).inv
              cases hxs with
              | cons h1 h2 =>
                cases h1
                cases hys with
                | cons i1 i2 =>
                  cases i1
                  refine ⟨_, rfl, tp, _, _, _, rfl, rfl, SqT.of htp, atI_nat (j := 0) rfl, _, rfl, ap, _, _, _, rfl, rfl, SqT.of hap, atI_nat (j := 0) rfl, rfl, _, rfl, ifF (by decide +kernel) ?_⟩
                  exact ⟨_, rfl, rfl, _, rfl, ifF (by simp) (ifF (by decide) ⟨rfl, rfl⟩)⟩
          · cases an' with
            | more _ => cases fl
            | few lw' b' =>
              have ell : lw'.length = lw.length := (Option.some.inj fl).symm
              obtain ⟨ap, xs, rfl, hap, hxs⟩ := (show DV H14 va (.tup [.str "fewest", rwsD lw, b.da]) from dva14).inv
              obtain ⟨tp, ys, rfl, htp, hys⟩ := (show DV H14 vt (.tup [.str "fewest", rwsD lw', b'.da]) from dvt).inv
              cases hxs with
              | cons h1 h2 =>
                cases h1
                cases hys with
                | cons i1 i2 =>
                  cases i1
                  cases i2 with
                  | cons i3 i4 =>
                    obtain ⟨lp, lv, rfl, hlp, hlv⟩ := i3.inv
                    have ll := hlv.length
                    rw [List.length_map] at ll
                    refine ⟨_, rfl, tp, _, _, _, rfl, rfl, SqT.of htp, atI_nat (j := 0) rfl, _, rfl, ap, _, _, _, rfl, rfl, SqT.of hap, atI_nat (j := 0) rfl, rfl, _, rfl, ifF (by decide +kernel) ?_⟩
                    refine ⟨_, rfl, rfl, _, rfl, ifT (by simp) ?_⟩
                    exact ⟨_, rfl, tp, _, _, _, rfl, rfl, SqT.of htp, atI_nat (j := 1) rfl, lp, _, rfl, .inr (SqT.of hlp), _, rfl, rfl, _, rfl, ifF (by rw [ll, ell]; simp) ⟨rfl, rfl⟩⟩
        · rintro σ' H15 ⟨rfl, rfl⟩
          have K15 : Keep d H2 H15 := K4.trans s314.keep
          have D15 := D4.same s314
          have tpI : Tups H' H15 := Tups.trans (D3.tups k3) (same_tp s314)
          refine ⟨fun σ' H16 => ∃ fp, σ' = [some (.ref a), some (.ref d), some (.ref fp), some (.int ((most : Nat) : Int)), some (.int ((many : Nat) : Int)), some (.ref cr), some (.ref cw), some vd, some va, some vt, q10, q11, none] ∧ Same H15 H16 ∧ FirstOk H16 (.ref fp), ?_, ?_⟩
          · by_cases i0 : i = 0
            · obtain ⟨rfl, rfl⟩ := i3 i0
              have := v0 i0
              subst this
              refine ⟨_, rfl, rfl, _, rfl, ifT rfl ?_⟩
              refine ⟨_, rfl, _, rfl, _, rfl, by show 3 ≤ sizeLine; decide, fun fp hfp => ⟨fp, rfl, Same.upd hfp, R, W, full, .tup upd_same (.cons ((dR.mono (same_tp s314)).mono (tups_new hfp)) (.cons ((dW.mono (same_tp s314)).mono (tups_new hfp)) (.cons ?_ .nil))), SM, so, me⟩⟩
              rw [← ean]
              exact dva14.mono (tups_new hfp)
            · obtain ⟨fp, rfl, fk⟩ := v1 (by omega)
              exact ⟨_, rfl, rfl, _, rfl, ifF (by simp) ⟨fp, rfl, Same.refl _, fk.mono tpI⟩⟩
          · rintro σ' H16 ⟨fp, rfl, s16, fk⟩
            have s316 := s314.trans s16
            refine ⟨_, rfl, by show 3 ≤ sizeLine; decide, fun w1 hw1 => ⟨by show 1 ≤ sizeLine; decide, fun u1 hu1 => ?_⟩⟩
            have nw1 : w1 ≠ u1 := fun z => by rw [← z, upd_same] at hu1; cases hu1
            have s17 : Same H16 (upd (upd H16 w1 (.tup [.int 0, .int 1, .int 1])) u1 (.tup [.ref w1])) := (Same.upd hw1).trans (Same.upd hu1)
            have e17 : upd (upd H16 w1 (.tup [.int 0, .int 1, .int 1])) u1 (.tup [.ref w1]) w1 = some (.tup [.int 0, .int 1, .int 1]) := by rw [upd_ne nw1, upd_same]
            have f17 : upd (upd H16 w1 (.tup [.int 0, .int 1, .int 1])) u1 (.tup [.ref w1]) u1 = some (.tup [.ref w1]) := upd_same
            generalize upd (upd H16 w1 (.tup [.int 0, .int 1, .int 1])) u1 (.tup [.ref w1]) = H17 at s17 e17 f17 ⊢
            have s317 := s316.trans s17
            refine ⟨cr, u1, _, _, rfl, rfl, s317 _ _ hcr, f17, by rw [List.length_singleton]; exact Nat.le_of_lt (small1000 (by omega)), fun p3 H18 s18 hp3 => ?_⟩
            have s318 := s317.trans s18
            have dR2 : DV H18 (.ref p3) (.tup ((R ++ [[0, 1, 1]]).map wd)) := by
              refine .tup hp3 ?_
              rw [List.map_append]
              exact (hrs.mono (same_tp s318)).append (.cons (.of_word (s18 _ _ e17)) .nil)
            have inv : ∀ {Hz : Hp} {gg : Option V}, Same H18 Hz → Keep d H2 Hz ∧ Dr Hz d sc ms ∧ ∃ vf g3 g4 g5 g6 g7 g8 g9 g10 g11, [some (V.ref a), some (.ref d), some (.ref fp), some (.int ((most : Nat) : Int)), some (.int ((many : Nat) : Int)), some (.ref cr), some (.ref cw), some vd, some va, some vt, gg, q11, none] = [some (.ref a), some (.ref d), some vf, g3, g4, g5, g6, g7, g8, g9, g10, g11, none] ∧ (i + 1 = 0 → vf = .non) ∧ (0 < i + 1 → ∃ fp, vf = .ref fp ∧ FirstOk Hz vf) := fun {Hz gg} sz => by
              have s15z := ((s16.trans s17).trans s18).trans sz
              exact ⟨K15.trans s15z.keep, D15.same s15z, _, _, _, _, _, _, _, _, _, _, rfl, fun z => by omega, fun _ => ⟨fp, rfl, fk.mono (same_tp ((s17.trans s18).trans sz))⟩⟩
            refine ⟨by show 3 ≤ sizeLine; decide, fun tq htq => ?_⟩
            have s19 : Same H18 (upd H18 tq (.tup [.int 0, .int 1, .int 1])) := Same.upd htq
            have d19 : DV (upd H18 tq (.tup [.int 0, .int 1, .int 1])) (.ref tq) (wd [0, 1, 1]) := .of_word upd_same
            generalize upd H18 tq (.tup [.int 0, .int 1, .int 1]) = H19 at s19 d19 ⊢
            have s319 := s318.trans s19
            refine ⟨_, rfl, wd [0, 1, 1], cr, rs, _, d19, rfl, .inl (s319 _ _ hcr), hrs.mono (same_tp s319), Nat.le_trans (wd_deep _) (by decide), fun bb hbb => ⟨_, rfl, ?_⟩⟩
            rw [mem_wd] at hbb
            refine ite2 (fun cT => ?_) (fun _ => ifF (by decide) (inv s19))
            have nin : [0, 1, 1] ∉ R := hbb.mp cT
            refine ⟨_, rfl, _, rfl, by show 3 ≤ sizeLine; decide, fun w2 hw2 => ⟨by show 1 ≤ sizeLine; decide, fun u2 hu2 => ?_⟩⟩
            have nw2 : w2 ≠ u2 := fun z => by rw [← z, upd_same] at hu2; cases hu2
            have s20 : Same H19 (upd (upd H19 w2 (.tup [.int 0, .int 1, .int 1])) u2 (.tup [.ref w2])) := (Same.upd hw2).trans (Same.upd hu2)
            have e20 : upd (upd H19 w2 (.tup [.int 0, .int 1, .int 1])) u2 (.tup [.ref w2]) w2 = some (.tup [.int 0, .int 1, .int 1]) := by rw [upd_ne nw2, upd_same]
            have f20 : upd (upd H19 w2 (.tup [.int 0, .int 1, .int 1])) u2 (.tup [.ref w2]) u2 = some (.tup [.ref w2]) := upd_same
            generalize upd (upd H19 w2 (.tup [.int 0, .int 1, .int 1])) u2 (.tup [.ref w2]) = H20 at s20 e20 f20 ⊢
            have s320 := s319.trans s20
            refine ⟨cw, u2, _, _, rfl, rfl, s320 _ _ hcw, f20, by rw [List.length_singleton]; exact Nat.le_of_lt (small1000 (by omega)), fun p4 H21 s21 hp4 => ?_⟩
            have s321 := s320.trans s21
            have s1821 := (s19.trans s20).trans s21
            have dW2 : DV H21 (.ref p4) (.tup ((W ++ [[0, 1, 1]]).map wd)) := by
              refine .tup hp4 ?_
              rw [List.map_append]
              exact (hus.mono (same_tp s321)).append (.cons (.of_word (s21 _ _ e20)) .nil)
            have b011 : Bin [[0, 1, 1]] := fun w hw c hc => by
              rw [List.mem_singleton.mp hw] at hc
              simp at hc
              omega
            have bA : ∀ {S : List (List Nat)}, Bin S → Bin (S ++ [[0, 1, 1]]) := fun {S} b w hw => (List.mem_append.mp hw).elim (b w) (b011 w)
            have l3A : ∀ w ∈ (R ++ [[0, 1, 1]]) ++ (W ++ [[0, 1, 1]]), w.length ≤ 3 := fun w hw => by
              simp only [List.mem_append, List.mem_singleton] at hw
              rcases hw with (z | z) | (z | z)
              · exact l3 w (by simp [z])
              · rw [z]; decide
              · exact l3 w (by simp [z])
              · rw [z]; decide
            have sumA := sum_le l3A
            rw [List.length_append, List.length_append, List.length_append, List.length_singleton] at sumA
            have djA : ∀ u, u ∈ R → u ∉ W ++ [[0, 1, 1]] := fun u hu z => by
              rcases List.mem_append.mp z with z | z
              · exact dj u hu z
              · rw [List.mem_singleton.mp z] at hu; exact nin hu
            have ef1 := fstIn_snoc (w := [0, 1, 1]) djA (by simp)
            refine ⟨_, _, R ++ [[0, 1, 1]], W ++ [[0, 1, 1]], rfl, dR2.mono (same_tp s1821), dW2, bA bR, bA bW, by omega, by simp; omega, fun w0 ew vc H22 s22 dvc => ?_, fun en => by rw [ef1] at en; cases en⟩
            obtain rfl : [0, 1, 1] = w0 := by rw [ef1] at ew; exact Option.some.inj ew
            have s1822 := s1821.trans s22
            refine ⟨_, rfl, _, rfl, _, _, R ++ [[0, 1, 1]], W, rfl, dR2.mono (same_tp s1822), dW.mono (same_tp (s321.trans s22)), fun v2 H23 s23 dv2 => ⟨by show 2 ≤ sizeLine; decide, fun p5 hp5 => ?_⟩⟩
            rw [fstIn_snoc2 dj] at dv2
            have s24 : Same H23 (upd H23 p5 (.tup [.str "clash", v2])) := Same.upd hp5
            refine ⟨_, .tup [.str "clash", wd [0, 1, 1]], (dvc.mono (same_tp s23)).mono (same_tp s24), .tup upd_same (.cons (.str _) (.cons (dv2.mono (same_tp s24)) .nil)), ?_, fun b3 hb3 => ⟨_, rfl, ifF (fun z => hb3.mp z rfl) (inv ((s1822.trans s23).trans s24))⟩⟩
            refine Nat.le_trans (tup_deep (n := 1) fun x hx => ?_) (by omega)
            simp only [List.mem_cons, List.not_mem_nil, or_false] at hx
            rcases hx with rfl | rfl
            · rw [d_str]; omega
            · exact wd_deep _
  · obtain ⟨K3, D3, vf, q3, q4, q5, q6, q7, q8, q9, q10, q11, rfl, v0, v1⟩ := h
    obtain ⟨fp, rfl, R, W, full, dF, SM, so, me⟩ := v1 (by simp)
    have okn : okN 3 4 := ⟨by decide, by decide, by decide, by decide, fun _ => by decide⟩
    obtain ⟨_, xs, e0, hfp, hxs⟩ := dF.inv
    cases e0
    cases hxs with
    | cons x1 h2 =>
      cases h2 with
      | cons x2 h3 =>
        cases h3 with
        | cons x3 h4 =>
          cases h4
          refine ⟨_, rfl, fp, _, _, _, rfl, rfl, SqT.of hfp, rfl, _, rfl, fp, _, _, _, rfl, rfl, SqT.of hfp, rfl, _, _, R, W, 3, rfl, x1, x2, SM.bR, SM.bW, SM.sum (by decide), by have := SM.cnt; omega, by decide, by decide, fun w0 ew => ?_, fun _ full' so' me' => .inr ⟨(SM.cost okn so' me').1, (SM.cost okn so' me').2, fun v H4 s4 dv => ?_⟩⟩
          · rw [fstIn_dj SM.dj] at ew; cases ew
          obtain rfl : full' = full := sorted_uniq so' so fun w => (me' w).trans (me w).symm
          have deepA := an_deep (SM.few okn so me) (by have := (SM.cost okn so me).1; omega)
          refine ⟨_, rfl, fp, _, _, _, rfl, rfl, SqT.of (s4 _ _ hfp), rfl, _, _, dv, x3.mono (same_tp s4), deepA, fun bb hbb => ⟨_, rfl, ifF (fun z => hbb.mp z rfl) ?_⟩⟩
          have D4 := D3.same s4
          refine ⟨_, rfl, by decide, by decide, fun Dl hDl => ?_⟩
          have Dn := D4.new hDl
          refine lc_range (lo := 0) (n := (23 : Int).toNat) (fun j H6 => Dr H6 d sc ms ∧ ∃ w : List Nat, H6 Dl = some (.lst (w.map fun c : Nat => V.int (c : Int))) ∧ w.length = j ∧ ∀ c ∈ w, c < 2) ⟨D4.upd2 Dn.1 Dn.2, [], upd_same, rfl, by simp⟩ (fun j H6 hj h => ?_) (fun H6 h => ?_)
          · obtain ⟨D6, w0, hw0, wl, wb⟩ := h
            have hj : j < 23 := hj
            refine ⟨rfl, ?_⟩
            simp only [tYes, if_true]
            refine ⟨_, rfl, d, sc, ms, _, rfl, D6, by decide, by decide, fun c H7 c0 c1 k7 D7 => ⟨_, k7 _ _ Dn.1 hw0, ?_, ?_, w0 ++ [c.toNat], ?_, ?_, ?_⟩⟩
            · rw [List.length_map]; exact small1000 (by omega)
            · exact D7.upd2 Dn.1 Dn.2
            · rw [upd_same, List.map_append]
              show some (HO.lst (_ ++ [V.int c])) = some (HO.lst (_ ++ [V.int ((c.toNat : Nat) : Int)]))
              rw [show ((c.toNat : Nat) : Int) = c by omega]
            · rw [List.length_append, wl]; rfl
            · intro x hx
              rcases List.mem_append.mp hx with z | z
              · exact wb x z
              · simp at z; omega
          · obtain ⟨D6, w0, hw0, wl, wb⟩ := h
            have wl : w0.length = 23 := wl
            refine ⟨Dl, _, rfl, .inl ⟨SqL.of hw0, fun lp hlp => ?_⟩⟩
            have e7 : upd H6 lp (.tup (w0.map fun c : Nat => V.int (c : Int))) lp = some (.tup (w0.map fun c : Nat => V.int (c : Int))) := upd_same
            generalize upd H6 lp (.tup (w0.map fun c : Nat => V.int (c : Int))) = H7 at e7 ⊢
            clear hw0 D6 D4 Dn hDl
            have dl7 : DV H7 (.ref lp) (wd w0) := .of_word e7
            have b1 : Bin [w0] := fun w hw c hc => by rw [List.mem_singleton.mp hw] at hc; exact wb c hc
            have b0 : Bin [] := fun w hw => nomatch hw
            have bx : Bin [w0 ++ [0]] := fun w hw c hc => by
              rw [List.mem_singleton.mp hw] at hc
              rcases List.mem_append.mp hc with z | z
              · exact wb c z
              · simp at z; omega
            have dtwo : ∀ x y : Str, (Da.tup [.str x, .str y]).deep ≤ 90 := fun x y => by
              refine Nat.le_trans (tup_deep (n := 0) fun z hz => ?_) (by omega)
              simp only [List.mem_cons, List.not_mem_nil, or_false] at hz
              rcases hz with rfl | rfl <;> rw [d_str] <;> omega
            -- 23 cells
            refine ⟨_, rfl, by show 1 ≤ sizeLine; decide, fun a1 ha1 => ⟨by show 0 ≤ sizeLine; decide, fun a2 ha2 => ?_⟩⟩
            have n12 : a1 ≠ a2 := fun z => by rw [← z, upd_same] at ha2; cases ha2
            have s8 : Same H7 (upd (upd H7 a1 (.tup [.ref lp])) a2 (.tup [])) := (Same.upd ha1).trans (Same.upd ha2)
            have f8 : upd (upd H7 a1 (.tup [.ref lp])) a2 (.tup []) a1 = some (.tup [.ref lp]) := by rw [upd_ne n12, upd_same]
            have g8 : upd (upd H7 a1 (.tup [.ref lp])) a2 (.tup []) a2 = some (.tup []) := upd_same
            generalize upd (upd H7 a1 (.tup [.ref lp])) a2 (.tup []) = H8 at s8 f8 g8 ⊢
            refine ⟨_, _, [w0], [], rfl, .tup f8 (.cons (dl7.mono (same_tp s8)) .nil), .tup g8 .nil, b1, b0, by simp [wl], by simp, fun w ew => (by cases ew), fun _ fu so2 me2 => .inr ⟨by have := one_len so2 me2; omega, fun v8 H9 s9 dv9 => ?_⟩⟩
            refine ⟨by show 2 ≤ sizeLine; decide, fun a3 ha3 => ?_⟩
            have s10 : Same H9 (upd H9 a3 (.tup [.str "none", .non])) := Same.upd ha3
            refine ⟨_, .tup [.str "none", .non], dv9.mono (same_tp s10), .tup upd_same (.cons (.str _) (.cons .non .nil)), ?_, fun bb hbb => ⟨_, rfl, ifF (fun z => hbb.mp z rfl) ?_⟩⟩
            · refine Nat.le_trans (tup_deep (n := 0) fun z hz => ?_) (by omega)
              simp only [List.mem_cons, List.not_mem_nil, or_false] at hz
              rcases hz with rfl | rfl
              · rw [d_str]; omega
              · rw [d_non]; omega
            have e10 := s10 _ _ (s9 _ _ (s8 _ _ e7))
            generalize upd H9 a3 (.tup [.str "none", .non]) = H10 at e10 ⊢
            clear s10 dv9 s9 s8 f8 g8 e7 dl7
            have cat : (w0.map fun c : Nat => V.int (c : Int)) ++ [V.int 0] = (w0 ++ [0]).map fun c : Nat => V.int (c : Int) := by rw [List.map_append]; rfl
            have lw : (w0.map fun c : Nat => V.int (c : Int)).length + [V.int 0].length ≤ sizeLine := by rw [List.length_map, wl]; exact Nat.le_of_lt (small1000 (by decide))
            -- 24 cells
            refine ⟨_, rfl, by show 1 ≤ sizeLine; decide, fun b1' hb1 => ?_⟩
            have s11 : Same H10 (upd H10 b1' (.tup [.int 0])) := Same.upd hb1
            refine ⟨lp, b1', _, _, rfl, rfl, s11 _ _ e10, upd_same, lw, fun b2 H12 s12 hb2 => ?_⟩
            rw [cat] at hb2
            have e12 := s12 _ _ (s11 _ _ e10)
            refine ⟨by show 1 ≤ sizeLine; decide, fun a4 ha4 => ⟨by show 0 ≤ sizeLine; decide, fun a5 ha5 => ?_⟩⟩
            have n45 : a4 ≠ a5 := fun z => by rw [← z, upd_same] at ha5; cases ha5
            have s13 : Same H12 (upd (upd H12 a4 (.tup [.ref b2])) a5 (.tup [])) := (Same.upd ha4).trans (Same.upd ha5)
            have f13 : upd (upd H12 a4 (.tup [.ref b2])) a5 (.tup []) a4 = some (.tup [.ref b2]) := by rw [upd_ne n45, upd_same]
            have g13 : upd (upd H12 a4 (.tup [.ref b2])) a5 (.tup []) a5 = some (.tup []) := upd_same
            generalize upd (upd H12 a4 (.tup [.ref b2])) a5 (.tup []) = H13 at s13 f13 g13 ⊢
            refine ⟨_, _, [w0 ++ [0]], [], rfl, .tup f13 (.cons (.of_word (s13 _ _ hb2)) .nil), .tup g13 .nil, bx, b0, by simp [wl], by simp, fun w ew => (by cases ew), fun _ fu so2 me2 => .inl ⟨by have := one_len so2 me2; rw [List.length_append, wl] at this; simp at this; omega, fun v14 H14 s14 dv14 => ?_⟩⟩
            refine ⟨by show 2 ≤ sizeLine; decide, fun a6 ha6 => ?_⟩
            have s15 : Same H14 (upd H14 a6 (.tup [.str "large", .str "samples"])) := Same.upd ha6
            refine ⟨_, .tup [.str "large", .str "samples"], dv14.mono (same_tp s15), .tup upd_same (.cons (.str _) (.cons (.str _) .nil)), dtwo _ _, fun bb hbb => ⟨_, rfl, ifF (fun z => hbb.mp z rfl) ?_⟩⟩
            have e15 := s15 _ _ (s14 _ _ (s13 _ _ e12))
            generalize upd H14 a6 (.tup [.str "large", .str "samples"]) = H15 at e15 ⊢
            clear s15 dv14 s14 s13 f13 g13 e12 hb2 s12 s11
            -- right and wrong
            refine ⟨_, rfl, by show 1 ≤ sizeLine; decide, fun c1 hc1 => ?_⟩
            have s16 : Same H15 (upd H15 c1 (.tup [.int 0])) := Same.upd hc1
            refine ⟨lp, c1, _, _, rfl, rfl, s16 _ _ e15, upd_same, lw, fun c2 H17 s17 hc2 => ⟨by show 1 ≤ sizeLine; decide, fun c3 hc3 => ?_⟩⟩
            rw [cat] at hc2
            have e17 := s17 _ _ (s16 _ _ e15)
            have s18 : Same H17 (upd H17 c3 (.tup [.ref c2])) := Same.upd hc3
            have f18 : upd H17 c3 (.tup [.ref c2]) c3 = some (.tup [.ref c2]) := upd_same
            generalize upd H17 c3 (.tup [.ref c2]) = H18 at s18 f18 ⊢
            refine ⟨_, rfl, by show 1 ≤ sizeLine; decide, fun c4 hc4 => ?_⟩
            have s19 : Same H18 (upd H18 c4 (.tup [.int 0])) := Same.upd hc4
            refine ⟨lp, c4, _, _, rfl, rfl, s19 _ _ (s18 _ _ e17), upd_same, lw, fun c5 H20 s20 hc5 => ⟨by show 1 ≤ sizeLine; decide, fun c6 hc6 => ?_⟩⟩
            rw [cat] at hc5
            have s21 : Same H20 (upd H20 c6 (.tup [.ref c5])) := Same.upd hc6
            have s1821 := (s19.trans s20).trans s21
            refine ⟨_, _, [w0 ++ [0]], [w0 ++ [0]], rfl, .tup (s1821 _ _ f18) (.cons (.of_word (s1821 _ _ (s18 _ _ hc2))) .nil), .tup upd_same (.cons (.of_word (s21 _ _ hc5)) .nil), bx, bx, by simp [wl], by simp, fun w ew v22 H22 s22 dv22 => ?_, fun en => ?_⟩
            · have ee : fstIn [w0 ++ [0]] [w0 ++ [0]] = some (w0 ++ [0]) := by unfold fstIn; simp
              obtain rfl : w0 ++ [0] = w := by rw [ee] at ew; exact Option.some.inj ew
              have e22 := s22 _ _ (s1821 _ _ (s18 _ _ e17))
              refine ⟨_, rfl, by show 1 ≤ sizeLine; decide, fun c7 hc7 => ?_⟩
              have s23 : Same H22 (upd H22 c7 (.tup [.int 0])) := Same.upd hc7
              refine ⟨lp, c7, _, _, rfl, rfl, s23 _ _ e22, upd_same, lw, fun c8 H24 s24 hc8 => ⟨by show 2 ≤ sizeLine; decide, fun c9 hc9 => ?_⟩⟩
              rw [cat] at hc8
              have s25 : Same H24 (upd H24 c9 (.tup [.str "clash", .ref c8])) := Same.upd hc9
              refine ⟨_, .tup [.str "clash", wd (w0 ++ [0])], (dv22.mono (same_tp (s23.trans s24))).mono (same_tp s25), .tup upd_same (.cons (.str _) (.cons (.of_word (s25 _ _ hc8)) .nil)), ?_, fun bb hbb => ?_⟩
              · refine Nat.le_trans (tup_deep (n := 1) fun x hx => ?_) (by omega)
                simp only [List.mem_cons, List.not_mem_nil, or_false] at hx
                rcases hx with rfl | rfl
                · rw [d_str]; omega
                · exact wd_deep _
              · obtain rfl : bb = true := hbb.mpr rfl
                exact kk _
            · have ee : fstIn [w0 ++ [0]] [w0 ++ [0]] = some (w0 ++ [0]) := by unfold fstIn; simp
              rw [ee] at en; cases en
end
end Toy

set_option Elab.async false
set_option linter.all false
set_option maxRecDepth 100000
set_option maxHeartbeats 4000000
namespace Toy
open PySem L2
section
variable {P : Program} {w : World} {K : PySem.W.Frag} {mg : Str → Option Value} {base : Heap} {CR : Addr} {f g : Addr} {fd gd : FuncData} {ps : List Str} {CX : CXT}
/-- what «except C» names of an exception of the class S -/
theorem exm_gen {K : PySem.W.Frag} {S C : Addr} {b : Bool} (h1 : PySem.W.subIn K (.ref C) (.type "BaseException") = some true) (h2 : PySem.W.isClsIn K C = true) (h3 : PySem.W.typeIn K (.ref C) = some (.type "type")) (h4 : PySem.W.subIn K (.ref S) (.ref C) = some b) :
    PySem.W.exmOne K (.ref S) (.ref C) = some b := by
  have e1 : (PySem.W.subIn K (.ref C) (.type "BaseException") == some true) = true := by rw [h1] <;> rfl
  have e2 : ((PySem.W.clsIn K C).isSome && PySem.W.typeIn K (.ref C) == some (.type "type")) = true := by
    have h2' : (PySem.W.clsIn K C).isSome = true := h2
    rw [h2', h3] <;> rfl
  show (if (PySem.W.subIn K (.ref C) (.type "BaseException") == some true) = true then (if ((PySem.W.clsIn K C).isSome && PySem.W.typeIn K (.ref C) == some (.type "type")) = true then PySem.W.subIn K (.ref S) (.ref C) else none) else none) = some b
  rw [if_pos e1, if_pos e2]
  exact h4
theorem exm_self {K : PySem.W.Frag} {S : Addr} (h1 : PySem.W.subIn K (.ref S) (.type "BaseException") = some true) (h2 : PySem.W.isClsIn K S = true) (h3 : PySem.W.typeIn K (.ref S) = some (.type "type")) (h4 : PySem.W.subIn K (.ref S) (.ref S) = some true) :
    PySem.W.exmOne K (.ref S) (.ref S) = some true := exm_gen h1 h2 h3 h4
theorem along_of {K : PySem.W.Frag} {CF NF : Addr} {nmF qF : Str} {bsF bmF : List Value} {snF : List Str} {subF : List Value} {abF : Bool} {colF : Option Bool} {ddF : Option Addr} {m0F m1F m2F m3F m5F : Option Value} {n : Str} {r : Option Value}
    (xF : K.lookup CF = some (excClassObj nmF qF CF NF bsF bmF true snF subF abF colF ddF m0F m1F m2F m3F m5F "ValueError.__new__")) (alF : PySem.W.findIn K (.ref CF) n = some r) : PySem.W.alongIn K n (.ref CF :: bmF) = some r := by
  simp only [PySem.W.findIn, xF, excClassObj] at alF
  exact alF
theorem fnok_no {k : Nat} {sp : Sp} (no : ∀ vs H Q E, ¬ sp vs H Q E) : FnOk P w K mg base CX k f fd ps sp :=
  ⟨fun vs H Q E h => absurd h (no vs H Q E), fun A outer s H args us vs Q E _ _ _ _ h => absurd h (no vs H Q E)⟩
theorem cal_mono {j k : Nat} {x : Str} {sp : Sp} (c : CalX P w K mg base CX j x sp) (h : j ≤ k) : CalX P w K mg base CX k x sp := by
  obtain ⟨f, fd, ps, F, r⟩ := c.ex
  exact ⟨f, fd, ps, F.mono h, r⟩
theorem all_bars (T : Txt K mg CR) (F : Fun K "bars" "bars" s_bars f fd) (m : mg "bars" = some (.ref f)) (k : PySem.W.keepIn K (.ref f) = true) (b : Binds K fd ["state", "words", "samples", "most", "tree", "base"] [])
    (M_forced : MetX P w K mg base CX0 1 CR "forced" (spForced CR)) (M_give : MetX P w K mg base CX0 1 CR "give" (spGive CR)) (M_copied : MetX P w K mg base CX0 3 CR "copied" (spCopied CR)) (C_is_bad : CalX P w K mg base CX0 3 "is_bad" (spIsBad CR)) : ∀ n : Nat, CalX P w K mg base CX0 (n + 3) "bars" (spBars CR n)
  | 0 => ⟨f, fd, _, fnok_no fun _ _ _ _ h => h, m, k, b⟩
  | n + 1 => ⟨f, fd, _, ok_bars F T M_forced M_give M_copied C_is_bad (all_bars T F m k b M_forced M_give M_copied C_is_bad n), m, k, b⟩
theorem all_fit (T : Txt K mg CR) (F : Fun K "_law_fit" "_law_fit" s_l_fit f fd) (m : mg "_law_fit" = some (.ref f)) (k : PySem.W.keepIn K (.ref f) = true) (b : Binds K fd ["samples", "many", "links"] []) : ∀ n : Nat, CalX P w K mg base CX0 (n + 1) "_law_fit" (spFit n)
  | 0 => ⟨f, fd, _, fnok_no fun _ _ _ _ h => h, m, k, b⟩
  | n + 1 => ⟨f, fd, _, ok_fit F T (all_fit T F m k b n), m, k, b⟩
theorem met_mono {j k : Nat} {C : Addr} {m : Str} {sp : Sp} (c : MetX P w K mg base CX j C m sp) (h : j ≤ k) : MetX P w K mg base CX k C m sp := by
  obtain ⟨f, fd, ps, F, r⟩ := c.ex
  exact ⟨f, fd, ps, F.mono h, r⟩
theorem all_go {CT CF CL fL cL dL CC fC cC dC : Addr} (T : Tx P K mg CR CT CF CL fL cL dL CC fC cC dC) (FG : Fun K "give" "RowTries.give" s_t_give g gd) (mG : Meth K CT "give" g) (bG : Binds K gd ["self", "state", "at", "row", "most"] []) (F : Fun K "go_on" "RowTries.go_on" s_t_go_on f fd) (m : Meth K CT "go_on" f) (b : Binds K fd ["self", "state", "at", "most"] [])
    (M_forced : MetX P w K mg base CX0 1 CR "forced" (spForced CR)) (M_give : MetX P w K mg base CX0 1 CR "give" (spGive CR)) (M_copied : MetX P w K mg base CX0 3 CR "copied" (spCopied CR)) : ∀ n : Nat, MetX P w K mg base CX0 (2 * n + 4) CT "go_on" (spGo CR CT n)
  | 0 => ⟨f, fd, _, fnok_no fun _ _ _ _ h => h, T.clT, m, b⟩
  | n + 1 => ⟨f, fd, _, ok_t_go_on (l := 2 * n + 5) (by omega) F T M_forced M_copied ⟨g, gd, _, ok_t_give (l := 2 * n + 4) (by omega) FG T M_give (all_go T FG mG bG F m b M_forced M_give M_copied n), T.clT, mG, bG⟩, T.clT, m, b⟩
end
theorem all_mk {P : Program} {w : World} {K : PySem.W.Frag} {h : Heap} {mg : Str → Option Value} {fa : Addr} (X : K.In h) (G : h.Ns mainGlobals mg) (hfa : mg "law" = some (.ref fa))
    {CF NF : Addr} {nmF qF : Str} {bsF bmF : List Value} {snF : List Str} {subF : List Value} {abF : Bool} {colF : Option Bool} {ddF : Option Addr} {m0F m1F m2F m3F m5F : Option Value} {CR : Addr} {CT : Addr} {CC fC cC dC NCC : Addr} {nmCC qCC : Str} {bsCC : List Value} {snCC : List Str} {subCC : List Value} {abCC : Bool} {colCC : Option Bool} {ddCC : Option Addr} {m0CC m1CC m2CC m3CC m5CC : Option Value} {ocCC kVCC docCC pmCC ctCC cclCC : Value} {odCC anCC cldCC cddCC : Option Addr} {oslCC cslCC ccsCC : Array (Option Value)} {olCC : Value} {vsCC : Array Value} {fileCC : Str} {tfCC : Tok} {CL fL cL dL NCL : Addr} {nmCL qCL : Str} {bsCL : List Value} {snCL : List Str} {subCL : List Value} {abCL : Bool} {colCL : Option Bool} {ddCL : Option Addr} {m0CL m1CL m2CL m3CL m5CL : Option Value} {ocCL kVCL docCL pmCL ctCL cclCL : Value} {odCL anCL cldCL cddCL : Option Addr} {oslCL cslCL ccsCL : Array (Option Value)} {olCL : Value} {vsCL : Array Value} {fileCL : Str} {tfCL : Tok} {f00 : Addr} {oc00 kV00 dc00 pm00 cd00 ct00 : Value} {od00 an00 : Option Addr} {sl00 : Array (Option Value)} {f01 : Addr} {oc01 kV01 dc01 pm01 cd01 ct01 : Value} {od01 an01 : Option Addr} {sl01 : Array (Option Value)} {f02 : Addr} {oc02 kV02 dc02 pm02 cd02 ct02 : Value} {od02 an02 : Option Addr} {sl02 : Array (Option Value)} {f03 : Addr} {oc03 kV03 dc03 pm03 cd03 ct03 : Value} {od03 an03 : Option Addr} {sl03 : Array (Option Value)} {f04 : Addr} {oc04 kV04 dc04 pm04 cd04 ct04 : Value} {od04 an04 : Option Addr} {sl04 : Array (Option Value)} {f05 : Addr} {oc05 kV05 dc05 pm05 cd05 ct05 : Value} {od05 an05 : Option Addr} {sl05 : Array (Option Value)} {f06 : Addr} {oc06 kV06 dc06 pm06 cd06 ct06 : Value} {od06 an06 : Option Addr} {sl06 : Array (Option Value)} {f07 : Addr} {oc07 kV07 dc07 pm07 cd07 ct07 : Value} {od07 an07 : Option Addr} {sl07 : Array (Option Value)} {f08 : Addr} {oc08 kV08 dc08 pm08 cd08 ct08 : Value} {od08 an08 : Option Addr} {sl08 : Array (Option Value)} {f09 : Addr} {oc09 kV09 dc09 pm09 cd09 ct09 : Value} {od09 an09 : Option Addr} {sl09 : Array (Option Value)} {f10 : Addr} {oc10 kV10 dc10 pm10 cd10 ct10 : Value} {od10 an10 : Option Addr} {sl10 : Array (Option Value)} {f11 : Addr} {oc11 kV11 dc11 pm11 cd11 ct11 : Value} {od11 an11 : Option Addr} {sl11 : Array (Option Value)} {f12 : Addr} {oc12 kV12 dc12 pm12 cd12 ct12 : Value} {od12 an12 : Option Addr} {sl12 : Array (Option Value)} {f13 : Addr} {oc13 kV13 dc13 pm13 cd13 ct13 : Value} {od13 an13 : Option Addr} {sl13 : Array (Option Value)} {f14 : Addr} {oc14 kV14 dc14 pm14 cd14 ct14 : Value} {od14 an14 : Option Addr} {sl14 : Array (Option Value)} {f15 : Addr} {oc15 kV15 dc15 pm15 cd15 ct15 : Value} {od15 an15 : Option Addr} {sl15 : Array (Option Value)} {f16 : Addr} {oc16 kV16 dc16 pm16 cd16 ct16 : Value} {od16 an16 : Option Addr} {sl16 : Array (Option Value)} {f17 : Addr} {oc17 kV17 dc17 pm17 cd17 ct17 : Value} {od17 an17 : Option Addr} {sl17 : Array (Option Value)} {f18 : Addr} {oc18 kV18 dc18 pm18 cd18 ct18 : Value} {od18 an18 : Option Addr} {sl18 : Array (Option Value)} {f19 : Addr} {oc19 kV19 dc19 pm19 cd19 ct19 : Value} {od19 an19 : Option Addr} {sl19 : Array (Option Value)} {f20 : Addr} {oc20 kV20 dc20 pm20 cd20 ct20 : Value} {od20 an20 : Option Addr} {sl20 : Array (Option Value)} {f21 : Addr} {oc21 kV21 dc21 pm21 cd21 ct21 : Value} {od21 an21 : Option Addr} {sl21 : Array (Option Value)} {f22 : Addr} {oc22 kV22 dc22 pm22 cd22 ct22 : Value} {od22 an22 : Option Addr} {sl22 : Array (Option Value)} {f23 : Addr} {oc23 kV23 dc23 pm23 cd23 ct23 : Value} {od23 an23 : Option Addr} {sl23 : Array (Option Value)} {f24 : Addr} {oc24 kV24 dc24 pm24 cd24 ct24 : Value} {od24 an24 : Option Addr} {sl24 : Array (Option Value)} {f25 : Addr} {oc25 kV25 dc25 pm25 cd25 ct25 : Value} {od25 an25 : Option Addr} {sl25 : Array (Option Value)} {f26 : Addr} {oc26 kV26 dc26 pm26 cd26 ct26 : Value} {od26 an26 : Option Addr} {sl26 : Array (Option Value)} {f27 : Addr} {oc27 kV27 dc27 pm27 cd27 ct27 : Value} {od27 an27 : Option Addr} {sl27 : Array (Option Value)} {f28 : Addr} {oc28 kV28 dc28 pm28 cd28 ct28 : Value} {od28 an28 : Option Addr} {sl28 : Array (Option Value)} {f29 : Addr} {oc29 kV29 dc29 pm29 cd29 ct29 : Value} {od29 an29 : Option Addr} {sl29 : Array (Option Value)} {f30 : Addr} {oc30 kV30 dc30 pm30 cd30 ct30 : Value} {od30 an30 : Option Addr} {sl30 : Array (Option Value)} {f31 : Addr} {oc31 kV31 dc31 pm31 cd31 ct31 : Value} {od31 an31 : Option Addr} {sl31 : Array (Option Value)} {tMOST_BEGINNINGS : Tok} {tMOST_TRIES : Tok}
    (aF : PySem.W.nsIn K mainGlobals "FormatError" = some (some (.ref CF)))
    (xF : K.lookup CF = some (excClassObj nmF qF CF NF bsF bmF true snF subF abF colF ddF m0F m1F m2F m3F m5F "ValueError.__new__"))
    (alF : PySem.W.findIn K (.ref CF) "__init__" = some (some (.builtin "ValueError.__init__")))
    (aCR : PySem.W.nsIn K mainGlobals "RowState" = some (some (.ref CR)))
    (pgCR : PySem.W.plainGet K CR Str.empty = true)
    (hdCR : PySem.W.hasDictIn K CR = true)
    (poCR : PySem.W.plainOver K CR = true)
    (saCR : PySem.W.findIn K (.ref CR) "__setattr__" = some (some (.builtin "object.__setattr__")))
    (mkCR : PySem.W.makesIn K CR = true)
    (kcCR : PySem.W.keepIn K (.ref CR) = true)
    (nCR_given : PySem.W.findIn K (.ref CR) "given" = some none)
    (nCR_links : PySem.W.findIn K (.ref CR) "links" = some none)
    (nCR_used : PySem.W.findIn K (.ref CR) "used" = some none)
    (nCR_right_at : PySem.W.findIn K (.ref CR) "right_at" = some none)
    (nCR_wrong_at : PySem.W.findIn K (.ref CR) "wrong_at" = some none)
    (aCT : PySem.W.nsIn K mainGlobals "RowTries" = some (some (.ref CT)))
    (pgCT : PySem.W.plainGet K CT Str.empty = true)
    (hdCT : PySem.W.hasDictIn K CT = true)
    (poCT : PySem.W.plainOver K CT = true)
    (saCT : PySem.W.findIn K (.ref CT) "__setattr__" = some (some (.builtin "object.__setattr__")))
    (mkCT : PySem.W.makesIn K CT = true)
    (kcCT : PySem.W.keepIn K (.ref CT) = true)
    (nCT_samples : PySem.W.findIn K (.ref CT) "samples" = some none)
    (nCT_words : PySem.W.findIn K (.ref CT) "words" = some none)
    (nCT_tries : PySem.W.findIn K (.ref CT) "tries" = some none)
    (aCC : PySem.W.nsIn K mainGlobals "Clash" = some (some (.ref CC)))
    (xCC : K.lookup CC = some (excClassObj nmCC qCC CC NCC bsCC (.ref CF :: bmF) true snCC subCC abCC colCC ddCC m0CC m1CC m2CC m3CC m5CC "ValueError.__new__"))
    (bmCC : PySem.HandSPX.refsVE (.ref CF :: bmF) = true)
    (saCC : PySem.W.findIn K (.ref CC) "__setattr__" = some (some (.builtin "object.__setattr__")))
    (gaCC : PySem.W.findIn K (.ref CC) "__getattribute__" = some (some (.builtin "BaseException.__getattribute__")))
    (ggCC : PySem.W.findIn K (.ref CC) "__getattr__" = some none)
    (noCC : PySem.W.findIn K (.ref CC) "sample" = some none)
    (inCC : PySem.W.findIn K (.ref CC) "__init__" = some (some (.ref fC)))
    (tiCC : PySem.W.typeIn K (.ref fC) = some (.type "function"))
    (kCCC : PySem.W.keepIn K (.ref CC) = true)
    (eCCC : PySem.W.subIn K (.ref CC) (.type "BaseException") = some true)
    (vCCC : PySem.W.subIn K (.ref CC) (.type "ValueError") = some true)
    (mCCC : PySem.W.mroIn K CC (.ref CC) = some true)
    (tCCC : PySem.W.typeIn K (.ref CC) = some (.type "type"))
    (hCCC : PySem.W.hasDictIn K CC = true)
    (iCCC : PySem.W.isClsIn K CC = true)
    (sCCC : PySem.W.subIn K (.ref CC) (.ref CC) = some true)
    (fnCC : K.lookup fC = some ⟨ocCC, odCC, .func (PySem.W.ksFn "__init__" "Clash.__init__" PySem.SupX_C.iA PySem.SupX_C.iB PySem.SupX_C.iS .none kVCC docCC pmCC anCC (.ref dC) ctCC cC), oslCC⟩)
    (cdCC : PySem.W.codeIn K (.ref dC) "Clash.__init__" = true)
    (ceCC : K.lookup cC = some ⟨olCC, cldCC, .cell (some (.ref CC)), cslCC⟩)
    (coCC : K.lookup dC = some ⟨cclCC, cddCC, .fields vsCC, ccsCC⟩)
    (v2CC : vsCC[2]? = some (.str fileCC tfCC))
    (fiCC : ((P.main.file : Str) == fileCC) = true)
    (aCL : PySem.W.nsIn K mainGlobals "TooLarge" = some (some (.ref CL)))
    (xCL : K.lookup CL = some (excClassObj nmCL qCL CL NCL bsCL (.ref CF :: bmF) true snCL subCL abCL colCL ddCL m0CL m1CL m2CL m3CL m5CL "ValueError.__new__"))
    (bmCL : PySem.HandSPX.refsVE (.ref CF :: bmF) = true)
    (saCL : PySem.W.findIn K (.ref CL) "__setattr__" = some (some (.builtin "object.__setattr__")))
    (gaCL : PySem.W.findIn K (.ref CL) "__getattribute__" = some (some (.builtin "BaseException.__getattribute__")))
    (ggCL : PySem.W.findIn K (.ref CL) "__getattr__" = some none)
    (noCL : PySem.W.findIn K (.ref CL) "what" = some none)
    (inCL : PySem.W.findIn K (.ref CL) "__init__" = some (some (.ref fL)))
    (tiCL : PySem.W.typeIn K (.ref fL) = some (.type "function"))
    (kCCL : PySem.W.keepIn K (.ref CL) = true)
    (eCCL : PySem.W.subIn K (.ref CL) (.type "BaseException") = some true)
    (vCCL : PySem.W.subIn K (.ref CL) (.type "ValueError") = some true)
    (mCCL : PySem.W.mroIn K CL (.ref CL) = some true)
    (tCCL : PySem.W.typeIn K (.ref CL) = some (.type "type"))
    (hCCL : PySem.W.hasDictIn K CL = true)
    (iCCL : PySem.W.isClsIn K CL = true)
    (sCCL : PySem.W.subIn K (.ref CL) (.ref CL) = some true)
    (fnCL : K.lookup fL = some ⟨ocCL, odCL, .func (PySem.W.ksFn "__init__" "TooLarge.__init__" PySem.SupX_L.iA PySem.SupX_L.iB PySem.SupX_L.iS .none kVCL docCL pmCL anCL (.ref dL) ctCL cL), oslCL⟩)
    (cdCL : PySem.W.codeIn K (.ref dL) "TooLarge.__init__" = true)
    (ceCL : K.lookup cL = some ⟨olCL, cldCL, .cell (some (.ref CL)), cslCL⟩)
    (coCL : K.lookup dL = some ⟨cclCL, cddCL, .fields vsCL, ccsCL⟩)
    (v2CL : vsCL[2]? = some (.str fileCL tfCL))
    (fiCL : ((P.main.file : Str) == fileCL) = true)
    (opq : PySem.W.nsIn K cStatics "thirdparty.any" = some none)
    (z_super : PySem.W.nsIn K mainGlobals "super" = some none)
    (topS : (P.main.scope.names.lookup ("super" : Str)).isSome = false)
    (a00 : PySem.W.nsIn K mainGlobals "is_whole" = some (some (.ref f00)))
    (l00 : K.lookup f00 = some ⟨oc00, od00, .func (PySem.W.fnOf "is_whole" "is_whole" (defArgs s_is_whole) (defBody s_is_whole) (defScope s_is_whole) .none kV00 dc00 pm00 an00 cd00 ct00), sl00⟩)
    (c00 : PySem.W.codeIn K cd00 "is_whole" = true)
    (k00 : PySem.W.keepIn K (.ref f00) = true)
    (a01 : PySem.W.nsIn K mainGlobals "is_cells" = some (some (.ref f01)))
    (l01 : K.lookup f01 = some ⟨oc01, od01, .func (PySem.W.fnOf "is_cells" "is_cells" (defArgs s_is_cells) (defBody s_is_cells) (defScope s_is_cells) .none kV01 dc01 pm01 an01 cd01 ct01), sl01⟩)
    (c01 : PySem.W.codeIn K cd01 "is_cells" = true)
    (k01 : PySem.W.keepIn K (.ref f01) = true)
    (a02 : PySem.W.nsIn K mainGlobals "is_wholes" = some (some (.ref f02)))
    (l02 : K.lookup f02 = some ⟨oc02, od02, .func (PySem.W.fnOf "is_wholes" "is_wholes" (defArgs s_is_wholes) (defBody s_is_wholes) (defScope s_is_wholes) .none kV02 dc02 pm02 an02 cd02 ct02), sl02⟩)
    (c02 : PySem.W.codeIn K cd02 "is_wholes" = true)
    (k02 : PySem.W.keepIn K (.ref f02) = true)
    (a03 : PySem.W.nsIn K mainGlobals "is_rows" = some (some (.ref f03)))
    (l03 : K.lookup f03 = some ⟨oc03, od03, .func (PySem.W.fnOf "is_rows" "is_rows" (defArgs s_is_rows) (defBody s_is_rows) (defScope s_is_rows) .none kV03 dc03 pm03 an03 cd03 ct03), sl03⟩)
    (c03 : PySem.W.codeIn K cd03 "is_rows" = true)
    (k03 : PySem.W.keepIn K (.ref f03) = true)
    (a04 : PySem.W.nsIn K mainGlobals "walk" = some (some (.ref f04)))
    (l04 : K.lookup f04 = some ⟨oc04, od04, .func (PySem.W.fnOf "walk" "walk" (defArgs s_walk) (defBody s_walk) (defScope s_walk) .none kV04 dc04 pm04 an04 cd04 ct04), sl04⟩)
    (c04 : PySem.W.codeIn K cd04 "walk" = true)
    (k04 : PySem.W.keepIn K (.ref f04) = true)
    (a05 : PySem.W.nsIn K mainGlobals "in_order" = some (some (.ref f05)))
    (l05 : K.lookup f05 = some ⟨oc05, od05, .func (PySem.W.fnOf "in_order" "in_order" (defArgs s_in_order) (defBody s_in_order) (defScope s_in_order) .none kV05 dc05 pm05 an05 cd05 ct05), sl05⟩)
    (c05 : PySem.W.codeIn K cd05 "in_order" = true)
    (k05 : PySem.W.keepIn K (.ref f05) = true)
    (a06 : PySem.W.nsIn K mainGlobals "beginnings_of" = some (some (.ref f06)))
    (l06 : K.lookup f06 = some ⟨oc06, od06, .func (PySem.W.fnOf "beginnings_of" "beginnings_of" (defArgs s_beginnings_of) (defBody s_beginnings_of) (defScope s_beginnings_of) .none kV06 dc06 pm06 an06 cd06 ct06), sl06⟩)
    (c06 : PySem.W.codeIn K cd06 "beginnings_of" = true)
    (k06 : PySem.W.keepIn K (.ref f06) = true)
    (a07 : PySem.W.findIn K (.ref CR) "__init__" = some (some (.ref f07)))
    (i07 : PySem.W.isFn K (.ref f07) = true)
    (l07 : K.lookup f07 = some ⟨oc07, od07, .func (PySem.W.fnOf "__init__" "RowState.__init__" (defArgs s_r_init) (defBody s_r_init) (defScope s_r_init) .none kV07 dc07 pm07 an07 cd07 ct07), sl07⟩)
    (c07 : PySem.W.codeIn K cd07 "RowState.__init__" = true)
    (k07 : PySem.W.keepIn K (.ref f07) = true)
    (a08 : PySem.W.findIn K (.ref CR) "copied" = some (some (.ref f08)))
    (i08 : PySem.W.isFn K (.ref f08) = true)
    (l08 : K.lookup f08 = some ⟨oc08, od08, .func (PySem.W.fnOf "copied" "RowState.copied" (defArgs s_r_copied) (defBody s_r_copied) (defScope s_r_copied) .none kV08 dc08 pm08 an08 cd08 ct08), sl08⟩)
    (c08 : PySem.W.codeIn K cd08 "RowState.copied" = true)
    (k08 : PySem.W.keepIn K (.ref f08) = true)
    (a09 : PySem.W.findIn K (.ref CR) "forced" = some (some (.ref f09)))
    (i09 : PySem.W.isFn K (.ref f09) = true)
    (l09 : K.lookup f09 = some ⟨oc09, od09, .func (PySem.W.fnOf "forced" "RowState.forced" (defArgs s_r_forced) (defBody s_r_forced) (defScope s_r_forced) .none kV09 dc09 pm09 an09 cd09 ct09), sl09⟩)
    (c09 : PySem.W.codeIn K cd09 "RowState.forced" = true)
    (k09 : PySem.W.keepIn K (.ref f09) = true)
    (a10 : PySem.W.findIn K (.ref CR) "give" = some (some (.ref f10)))
    (i10 : PySem.W.isFn K (.ref f10) = true)
    (l10 : K.lookup f10 = some ⟨oc10, od10, .func (PySem.W.fnOf "give" "RowState.give" (defArgs s_r_give) (defBody s_r_give) (defScope s_r_give) .none kV10 dc10 pm10 an10 cd10 ct10), sl10⟩)
    (c10 : PySem.W.codeIn K cd10 "RowState.give" = true)
    (k10 : PySem.W.keepIn K (.ref f10) = true)
    (a11 : PySem.W.findIn K (.ref CR) "full_rows" = some (some (.ref f11)))
    (i11 : PySem.W.isFn K (.ref f11) = true)
    (l11 : K.lookup f11 = some ⟨oc11, od11, .func (PySem.W.fnOf "full_rows" "RowState.full_rows" (defArgs s_r_full_rows) (defBody s_r_full_rows) (defScope s_r_full_rows) .none kV11 dc11 pm11 an11 cd11 ct11), sl11⟩)
    (c11 : PySem.W.codeIn K cd11 "RowState.full_rows" = true)
    (k11 : PySem.W.keepIn K (.ref f11) = true)
    (a12 : PySem.W.findIn K (.ref CT) "__init__" = some (some (.ref f12)))
    (i12 : PySem.W.isFn K (.ref f12) = true)
    (l12 : K.lookup f12 = some ⟨oc12, od12, .func (PySem.W.fnOf "__init__" "RowTries.__init__" (defArgs s_t_init) (defBody s_t_init) (defScope s_t_init) .none kV12 dc12 pm12 an12 cd12 ct12), sl12⟩)
    (c12 : PySem.W.codeIn K cd12 "RowTries.__init__" = true)
    (k12 : PySem.W.keepIn K (.ref f12) = true)
    (a13 : PySem.W.findIn K (.ref CT) "give" = some (some (.ref f13)))
    (i13 : PySem.W.isFn K (.ref f13) = true)
    (l13 : K.lookup f13 = some ⟨oc13, od13, .func (PySem.W.fnOf "give" "RowTries.give" (defArgs s_t_give) (defBody s_t_give) (defScope s_t_give) .none kV13 dc13 pm13 an13 cd13 ct13), sl13⟩)
    (c13 : PySem.W.codeIn K cd13 "RowTries.give" = true)
    (k13 : PySem.W.keepIn K (.ref f13) = true)
    (a14 : PySem.W.findIn K (.ref CT) "go_on" = some (some (.ref f14)))
    (i14 : PySem.W.isFn K (.ref f14) = true)
    (l14 : K.lookup f14 = some ⟨oc14, od14, .func (PySem.W.fnOf "go_on" "RowTries.go_on" (defArgs s_t_go_on) (defBody s_t_go_on) (defScope s_t_go_on) .none kV14 dc14 pm14 an14 cd14 ct14), sl14⟩)
    (c14 : PySem.W.codeIn K cd14 "RowTries.go_on" = true)
    (k14 : PySem.W.keepIn K (.ref f14) = true)
    (a15 : PySem.W.nsIn K mainGlobals "fewest" = some (some (.ref f15)))
    (l15 : K.lookup f15 = some ⟨oc15, od15, .func (PySem.W.fnOf "fewest" "fewest" (defArgs s_fewest) (defBody s_fewest) (defScope s_fewest) .none kV15 dc15 pm15 an15 cd15 ct15), sl15⟩)
    (c15 : PySem.W.codeIn K cd15 "fewest" = true)
    (k15 : PySem.W.keepIn K (.ref f15) = true)
    (a16 : PySem.W.nsIn K mainGlobals "is_bad" = some (some (.ref f16)))
    (l16 : K.lookup f16 = some ⟨oc16, od16, .func (PySem.W.fnOf "is_bad" "is_bad" (defArgs s_is_bad) (defBody s_is_bad) (defScope s_is_bad) .none kV16 dc16 pm16 an16 cd16 ct16), sl16⟩)
    (c16 : PySem.W.codeIn K cd16 "is_bad" = true)
    (k16 : PySem.W.keepIn K (.ref f16) = true)
    (a17 : PySem.W.nsIn K mainGlobals "bars" = some (some (.ref f17)))
    (l17 : K.lookup f17 = some ⟨oc17, od17, .func (PySem.W.fnOf "bars" "bars" (defArgs s_bars) (defBody s_bars) (defScope s_bars) .none kV17 dc17 pm17 an17 cd17 ct17), sl17⟩)
    (c17 : PySem.W.codeIn K cd17 "bars" = true)
    (k17 : PySem.W.keepIn K (.ref f17) = true)
    (a18 : PySem.W.nsIn K mainGlobals "is_full_watcher" = some (some (.ref f18)))
    (l18 : K.lookup f18 = some ⟨oc18, od18, .func (PySem.W.fnOf "is_full_watcher" "is_full_watcher" (defArgs s_is_full_watcher) (defBody s_is_full_watcher) (defScope s_is_full_watcher) .none kV18 dc18 pm18 an18 cd18 ct18), sl18⟩)
    (c18 : PySem.W.codeIn K cd18 "is_full_watcher" = true)
    (k18 : PySem.W.keepIn K (.ref f18) = true)
    (a19 : PySem.W.nsIn K mainGlobals "watcher_fits" = some (some (.ref f19)))
    (l19 : K.lookup f19 = some ⟨oc19, od19, .func (PySem.W.fnOf "watcher_fits" "watcher_fits" (defArgs s_watcher_fits) (defBody s_watcher_fits) (defScope s_watcher_fits) .none kV19 dc19 pm19 an19 cd19 ct19), sl19⟩)
    (c19 : PySem.W.codeIn K cd19 "watcher_fits" = true)
    (k19 : PySem.W.keepIn K (.ref f19) = true)
    (a20 : PySem.W.nsIn K mainGlobals "judge_fewest" = some (some (.ref f20)))
    (l20 : K.lookup f20 = some ⟨oc20, od20, .func (PySem.W.fnOf "judge_fewest" "judge_fewest" (defArgs s_judge_fewest) (defBody s_judge_fewest) (defScope s_judge_fewest) .none kV20 dc20 pm20 an20 cd20 ct20), sl20⟩)
    (c20 : PySem.W.codeIn K cd20 "judge_fewest" = true)
    (k20 : PySem.W.keepIn K (.ref f20) = true)
    (a21 : PySem.W.nsIn K mainGlobals "_law_begin" = some (some (.ref f21)))
    (l21 : K.lookup f21 = some ⟨oc21, od21, .func (PySem.W.fnOf "_law_begin" "_law_begin" (defArgs s_l_begin) (defBody s_l_begin) (defScope s_l_begin) .none kV21 dc21 pm21 an21 cd21 ct21), sl21⟩)
    (c21 : PySem.W.codeIn K cd21 "_law_begin" = true)
    (k21 : PySem.W.keepIn K (.ref f21) = true)
    (a22 : PySem.W.nsIn K mainGlobals "_law_draw" = some (some (.ref f22)))
    (l22 : K.lookup f22 = some ⟨oc22, od22, .func (PySem.W.fnOf "_law_draw" "_law_draw" (defArgs s_l_draw) (defBody s_l_draw) (defScope s_l_draw) .none kV22 dc22 pm22 an22 cd22 ct22), sl22⟩)
    (c22 : PySem.W.codeIn K cd22 "_law_draw" = true)
    (k22 : PySem.W.keepIn K (.ref f22) = true)
    (a23 : PySem.W.nsIn K mainGlobals "_law_pick" = some (some (.ref f23)))
    (l23 : K.lookup f23 = some ⟨oc23, od23, .func (PySem.W.fnOf "_law_pick" "_law_pick" (defArgs s_l_pick) (defBody s_l_pick) (defScope s_l_pick) .none kV23 dc23 pm23 an23 cd23 ct23), sl23⟩)
    (c23 : PySem.W.codeIn K cd23 "_law_pick" = true)
    (k23 : PySem.W.keepIn K (.ref f23) = true)
    (a24 : PySem.W.nsIn K mainGlobals "_law_is_int" = some (some (.ref f24)))
    (l24 : K.lookup f24 = some ⟨oc24, od24, .func (PySem.W.fnOf "_law_is_int" "_law_is_int" (defArgs s_l_is_int) (defBody s_l_is_int) (defScope s_l_is_int) .none kV24 dc24 pm24 an24 cd24 ct24), sl24⟩)
    (c24 : PySem.W.codeIn K cd24 "_law_is_int" = true)
    (k24 : PySem.W.keepIn K (.ref f24) = true)
    (a25 : PySem.W.nsIn K mainGlobals "_law_fit" = some (some (.ref f25)))
    (l25 : K.lookup f25 = some ⟨oc25, od25, .func (PySem.W.fnOf "_law_fit" "_law_fit" (defArgs s_l_fit) (defBody s_l_fit) (defScope s_l_fit) .none kV25 dc25 pm25 an25 cd25 ct25), sl25⟩)
    (c25 : PySem.W.codeIn K cd25 "_law_fit" = true)
    (k25 : PySem.W.keepIn K (.ref f25) = true)
    (a26 : PySem.W.nsIn K mainGlobals "_law_samples" = some (some (.ref f26)))
    (l26 : K.lookup f26 = some ⟨oc26, od26, .func (PySem.W.fnOf "_law_samples" "_law_samples" (defArgs s_l_samples) (defBody s_l_samples) (defScope s_l_samples) .none kV26 dc26 pm26 an26 cd26 ct26), sl26⟩)
    (c26 : PySem.W.codeIn K cd26 "_law_samples" = true)
    (k26 : PySem.W.keepIn K (.ref f26) = true)
    (a27 : PySem.W.nsIn K mainGlobals "_law_least" = some (some (.ref f27)))
    (l27 : K.lookup f27 = some ⟨oc27, od27, .func (PySem.W.fnOf "_law_least" "_law_least" (defArgs s_l_least) (defBody s_l_least) (defScope s_l_least) .none kV27 dc27 pm27 an27 cd27 ct27), sl27⟩)
    (c27 : PySem.W.codeIn K cd27 "_law_least" = true)
    (k27 : PySem.W.keepIn K (.ref f27) = true)
    (a28 : PySem.W.nsIn K mainGlobals "_law_fits" = some (some (.ref f28)))
    (l28 : K.lookup f28 = some ⟨oc28, od28, .func (PySem.W.fnOf "_law_fits" "_law_fits" (defArgs s_l_fits) (defBody s_l_fits) (defScope s_l_fits) .none kV28 dc28 pm28 an28 cd28 ct28), sl28⟩)
    (c28 : PySem.W.codeIn K cd28 "_law_fits" = true)
    (k28 : PySem.W.keepIn K (.ref f28) = true)
    (a29 : PySem.W.nsIn K mainGlobals "_law_first_in" = some (some (.ref f29)))
    (l29 : K.lookup f29 = some ⟨oc29, od29, .func (PySem.W.fnOf "_law_first_in" "_law_first_in" (defArgs s_l_first_in) (defBody s_l_first_in) (defScope s_l_first_in) .none kV29 dc29 pm29 an29 cd29 ct29), sl29⟩)
    (c29 : PySem.W.codeIn K cd29 "_law_first_in" = true)
    (k29 : PySem.W.keepIn K (.ref f29) = true)
    (a30 : PySem.W.nsIn K mainGlobals "_law_refusal" = some (some (.ref f30)))
    (l30 : K.lookup f30 = some ⟨oc30, od30, .func (PySem.W.fnOf "_law_refusal" "_law_refusal" (defArgs s_l_refusal) (defBody s_l_refusal) (defScope s_l_refusal) .none kV30 dc30 pm30 an30 cd30 ct30), sl30⟩)
    (c30 : PySem.W.codeIn K cd30 "_law_refusal" = true)
    (k30 : PySem.W.keepIn K (.ref f30) = true)
    (a31 : PySem.W.nsIn K mainGlobals "law" = some (some (.ref f31)))
    (l31 : K.lookup f31 = some ⟨oc31, od31, .func (PySem.W.fnOf "law" "law" (defArgs s_law) (defBody s_law) (defScope s_law) .none kV31 dc31 pm31 an31 cd31 ct31), sl31⟩)
    (c31 : PySem.W.codeIn K cd31 "law" = true)
    (k31 : PySem.W.keepIn K (.ref f31) = true)
    (z_len : PySem.W.nsIn K mainGlobals "len" = some none)
    (z_isinstance : PySem.W.nsIn K mainGlobals "isinstance" = some none)
    (z_int : PySem.W.nsIn K mainGlobals "int" = some none)
    (z_bool : PySem.W.nsIn K mainGlobals "bool" = some none)
    (z_tuple : PySem.W.nsIn K mainGlobals "tuple" = some none)
    (z_list : PySem.W.nsIn K mainGlobals "list" = some none)
    (z_range : PySem.W.nsIn K mainGlobals "range" = some none)
    (z_sorted : PySem.W.nsIn K mainGlobals "sorted" = some none)
    (z_enumerate : PySem.W.nsIn K mainGlobals "enumerate" = some none)
    (z_max : PySem.W.nsIn K mainGlobals "max" = some none)
    (z_min : PySem.W.nsIn K mainGlobals "min" = some none)
    (z_dict : PySem.W.nsIn K mainGlobals "dict" = some none)
    (z_abs : PySem.W.nsIn K mainGlobals "abs" = some none)
    (g_MOST_BEGINNINGS : PySem.W.nsIn K mainGlobals "MOST_BEGINNINGS" = some (some (.int 24 tMOST_BEGINNINGS)))
    (g_MOST_TRIES : PySem.W.nsIn K mainGlobals "MOST_TRIES" = some (some (.int 3000 tMOST_TRIES)))
    (sLC : PySem.W.subIn K (.ref CL) (.ref CC) = some false) :
    ∃ fd : FuncData, (∀ (s : Shared) (v : Value), BindsTo s fd ⟨[v], []⟩ [("script", v)]) ∧ ∀ base : Heap, K.In base → base.Ns mainGlobals mg → FnOk P w K mg base CX0 57 fa fd ["script"] (spLaw K) := by
  have e := hfa.symm.trans (PySem.W.mg_of X G a31)
  cases e
  have x_Clash : PySem.SupX_C.SupTxt P K mg CC fC cC dC :=
    { cls := ⟨nmCC, qCC, NCC, bsCC, _, snCC, subCC, abCC, colCC, ddCC, m0CC, m1CC, m2CC, m3CC, m5CC, xCC, bmCC, along_of xF alF⟩, sa := saCC, ga := gaCC, gg := ggCC, noN := noCC, iC := inCC, tC := tiCC, kC := kCCC, exC := eCCC, veC := vCCC, ccC := mCCC, tyC := tCCC, hdC := hCCC,
      te := exm_self eCCC iCCC tCCC sCCC, opq := opq, sup := PySem.W.mg_none_of X G z_super, top := topS, cell := ⟨_, _, _, ceCC⟩, code := ⟨_, _, _, _, _, _, coCC, v2CC, fiCC⟩, fn := ⟨_, _, _, _, _, _, _, _, _, fnCC, cdCC⟩ }
  have x_TooLarge : PySem.SupX_L.SupTxt P K mg CL fL cL dL :=
    { cls := ⟨nmCL, qCL, NCL, bsCL, _, snCL, subCL, abCL, colCL, ddCL, m0CL, m1CL, m2CL, m3CL, m5CL, xCL, bmCL, along_of xF alF⟩, sa := saCL, ga := gaCL, gg := ggCL, noN := noCL, iC := inCL, tC := tiCL, kC := kCCL, exC := eCCL, veC := vCCL, ccC := mCCL, tyC := tCCL, hdC := hCCL,
      te := exm_self eCCL iCCL tCCL sCCL, opq := opq, sup := PySem.W.mg_none_of X G z_super, top := topS, cell := ⟨_, _, _, ceCL⟩, code := ⟨_, _, _, _, _, _, coCL, v2CL, fiCL⟩, fn := ⟨_, _, _, _, _, _, _, _, _, fnCL, cdCL⟩ }
  have F00 := fun_mk (st := s_is_whole) l00 c00 k00
  have b00 := F00.binds (ps := ["thing"]) fun _ _ _ _ _ _ us hl => match us, hl with | [_], _ => rfl
  have g00 := PySem.W.mg_of X G a00
  have F01 := fun_mk (st := s_is_cells) l01 c01 k01
  have b01 := F01.binds (ps := ["thing", "base"]) fun _ _ _ _ _ _ us hl => match us, hl with | [_, _], _ => rfl
  have g01 := PySem.W.mg_of X G a01
  have F02 := fun_mk (st := s_is_wholes) l02 c02 k02
  have b02 := F02.binds (ps := ["thing"]) fun _ _ _ _ _ _ us hl => match us, hl with | [_], _ => rfl
  have g02 := PySem.W.mg_of X G a02
  have F03 := fun_mk (st := s_is_rows) l03 c03 k03
  have b03 := F03.binds (ps := ["thing", "width"]) fun _ _ _ _ _ _ us hl => match us, hl with | [_, _], _ => rfl
  have g03 := PySem.W.mg_of X G a03
  have F04 := fun_mk (st := s_walk) l04 c04 k04
  have b04 := F04.binds (ps := ["rows", "number", "cells"]) fun _ _ _ _ _ _ us hl => match us, hl with | [_, _, _], _ => rfl
  have g04 := PySem.W.mg_of X G a04
  have F05 := fun_mk (st := s_in_order) l05 c05 k05
  have b05 := F05.binds (ps := ["files"]) fun _ _ _ _ _ _ us hl => match us, hl with | [_], _ => rfl
  have g05 := PySem.W.mg_of X G a05
  have F06 := fun_mk (st := s_beginnings_of) l06 c06 k06
  have b06 := F06.binds (ps := ["files"]) fun _ _ _ _ _ _ us hl => match us, hl with | [_], _ => rfl
  have g06 := PySem.W.mg_of X G a06
  have F07 := fun_mk (st := s_r_init) l07 c07 k07
  have b07 := F07.binds (ps := ["self"]) fun _ _ _ _ _ _ us hl => match us, hl with | [_], _ => rfl
  have M07 : Meth K CR "__init__" f07 := ⟨a07, i07, k07⟩
  have F08 := fun_mk (st := s_r_copied) l08 c08 k08
  have b08 := F08.binds (ps := ["self"]) fun _ _ _ _ _ _ us hl => match us, hl with | [_], _ => rfl
  have M08 : Meth K CR "copied" f08 := ⟨a08, i08, k08⟩
  have F09 := fun_mk (st := s_r_forced) l09 c09 k09
  have b09 := F09.binds (ps := ["self", "word"]) fun _ _ _ _ _ _ us hl => match us, hl with | [_, _], _ => rfl
  have M09 : Meth K CR "forced" f09 := ⟨a09, i09, k09⟩
  have F10 := fun_mk (st := s_r_give) l10 c10 k10
  have b10 := F10.binds (ps := ["self", "word", "row", "samples"]) fun _ _ _ _ _ _ us hl => match us, hl with | [_, _, _, _], _ => rfl
  have M10 : Meth K CR "give" f10 := ⟨a10, i10, k10⟩
  have F11 := fun_mk (st := s_r_full_rows) l11 c11 k11
  have b11 := F11.binds (ps := ["self", "base"]) fun _ _ _ _ _ _ us hl => match us, hl with | [_, _], _ => rfl
  have M11 : Meth K CR "full_rows" f11 := ⟨a11, i11, k11⟩
  have F12 := fun_mk (st := s_t_init) l12 c12 k12
  have b12 := F12.binds (ps := ["self", "right", "wrong"]) fun _ _ _ _ _ _ us hl => match us, hl with | [_, _, _], _ => rfl
  have M12 : Meth K CT "__init__" f12 := ⟨a12, i12, k12⟩
  have F13 := fun_mk (st := s_t_give) l13 c13 k13
  have b13 := F13.binds (ps := ["self", "state", "at", "row", "most"]) fun _ _ _ _ _ _ us hl => match us, hl with | [_, _, _, _, _], _ => rfl
  have M13 : Meth K CT "give" f13 := ⟨a13, i13, k13⟩
  have F14 := fun_mk (st := s_t_go_on) l14 c14 k14
  have b14 := F14.binds (ps := ["self", "state", "at", "most"]) fun _ _ _ _ _ _ us hl => match us, hl with | [_, _, _, _], _ => rfl
  have M14 : Meth K CT "go_on" f14 := ⟨a14, i14, k14⟩
  have F15 := fun_mk (st := s_fewest) l15 c15 k15
  have b15 := F15.binds (ps := ["base", "right", "wrong", "most"]) fun _ _ _ _ _ _ us hl => match us, hl with | [_, _, _, _], _ => rfl
  have g15 := PySem.W.mg_of X G a15
  have F16 := fun_mk (st := s_is_bad) l16 c16 k16
  have b16 := F16.binds (ps := ["state", "samples", "tree", "base"]) fun _ _ _ _ _ _ us hl => match us, hl with | [_, _, _, _], _ => rfl
  have g16 := PySem.W.mg_of X G a16
  have F17 := fun_mk (st := s_bars) l17 c17 k17
  have b17 := F17.binds (ps := ["state", "words", "samples", "most", "tree", "base"]) fun _ _ _ _ _ _ us hl => match us, hl with | [_, _, _, _, _, _], _ => rfl
  have g17 := PySem.W.mg_of X G a17
  have F18 := fun_mk (st := s_is_full_watcher) l18 c18 k18
  have b18 := F18.binds (ps := ["rows", "base"]) fun _ _ _ _ _ _ us hl => match us, hl with | [_, _], _ => rfl
  have g18 := PySem.W.mg_of X G a18
  have F19 := fun_mk (st := s_watcher_fits) l19 c19 k19
  have b19 := F19.binds (ps := ["rows", "right", "wrong"]) fun _ _ _ _ _ _ us hl => match us, hl with | [_, _, _], _ => rfl
  have g19 := PySem.W.mg_of X G a19
  have F20 := fun_mk (st := s_judge_fewest) l20 c20 k20
  have b20 := F20.binds (ps := ["base", "right", "wrong", "most", "answer"]) fun _ _ _ _ _ _ us hl => match us, hl with | [_, _, _, _, _], _ => rfl
  have g20 := PySem.W.mg_of X G a20
  have F21 := fun_mk (st := s_l_begin) l21 c21 k21
  have b21 := F21.binds (ps := ["script"]) fun _ _ _ _ _ _ us hl => match us, hl with | [_], _ => rfl
  have g21 := PySem.W.mg_of X G a21
  have F22 := fun_mk (st := s_l_draw) l22 c22 k22
  have b22 := F22.binds (ps := ["d", "many"]) fun _ _ _ _ _ _ us hl => match us, hl with | [_, _], _ => rfl
  have g22 := PySem.W.mg_of X G a22
  have F23 := fun_mk (st := s_l_pick) l23 c23 k23
  have b23 := F23.binds (ps := ["d", "row"]) fun _ _ _ _ _ _ us hl => match us, hl with | [_, _], _ => rfl
  have g23 := PySem.W.mg_of X G a23
  have F24 := fun_mk (st := s_l_is_int) l24 c24 k24
  have b24 := F24.binds (ps := ["thing"]) fun _ _ _ _ _ _ us hl => match us, hl with | [_], _ => rfl
  have g24 := PySem.W.mg_of X G a24
  have F25 := fun_mk (st := s_l_fit) l25 c25 k25
  have b25 := F25.binds (ps := ["samples", "many", "links"]) fun _ _ _ _ _ _ us hl => match us, hl with | [_, _, _], _ => rfl
  have g25 := PySem.W.mg_of X G a25
  have F26 := fun_mk (st := s_l_samples) l26 c26 k26
  have b26 := F26.binds (ps := ["d", "many"]) fun _ _ _ _ _ _ us hl => match us, hl with | [_, _], _ => rfl
  have g26 := PySem.W.mg_of X G a26
  have F27 := fun_mk (st := s_l_least) l27 c27 k27
  have b27 := F27.binds (ps := ["right", "wrong", "most"]) fun _ _ _ _ _ _ us hl => match us, hl with | [_, _, _], _ => rfl
  have g27 := PySem.W.mg_of X G a27
  have F28 := fun_mk (st := s_l_fits) l28 c28 k28
  have b28 := F28.binds (ps := ["rows", "right", "wrong"]) fun _ _ _ _ _ _ us hl => match us, hl with | [_, _, _], _ => rfl
  have g28 := PySem.W.mg_of X G a28
  have F29 := fun_mk (st := s_l_first_in) l29 c29 k29
  have b29 := F29.binds (ps := ["right", "wrong"]) fun _ _ _ _ _ _ us hl => match us, hl with | [_, _], _ => rfl
  have g29 := PySem.W.mg_of X G a29
  have F30 := fun_mk (st := s_l_refusal) l30 c30 k30
  have b30 := F30.binds (ps := ["right", "wrong"]) fun _ _ _ _ _ _ us hl => match us, hl with | [_, _], _ => rfl
  have g30 := PySem.W.mg_of X G a30
  have F31 := fun_mk (st := s_law) l31 c31 k31
  have b31 := F31.binds (ps := ["script"]) fun _ _ _ _ _ _ us hl => match us, hl with | [_], _ => rfl
  have g31 := PySem.W.mg_of X G a31
  have T0 : Txt K mg CR :=
    { z_len := PySem.W.mg_none_of X G z_len, z_isinstance := PySem.W.mg_none_of X G z_isinstance, z_int := PySem.W.mg_none_of X G z_int, z_bool := PySem.W.mg_none_of X G z_bool, z_tuple := PySem.W.mg_none_of X G z_tuple, z_list := PySem.W.mg_none_of X G z_list, z_range := PySem.W.mg_none_of X G z_range, z_sorted := PySem.W.mg_none_of X G z_sorted, z_enumerate := PySem.W.mg_none_of X G z_enumerate, z_max := PySem.W.mg_none_of X G z_max, z_min := PySem.W.mg_none_of X G z_min, z_dict := PySem.W.mg_none_of X G z_dict, z_abs := PySem.W.mg_none_of X G z_abs, cl := ⟨pgCR, hdCR, poCR, saCR⟩, nG := nCR_given, nL := nCR_links, nU := nCR_used, nR := nCR_right_at, nW := nCR_wrong_at }
  have T : Tx P K mg CR CT CF CL fL cL dL CC fC cC dC :=
    { toTxt := T0, g_MOST_BEGINNINGS := ⟨_, PySem.W.mg_of X G g_MOST_BEGINNINGS⟩, g_MOST_TRIES := ⟨_, PySem.W.mg_of X G g_MOST_TRIES⟩, g_Clash := PySem.W.mg_of X G aCC, x_Clash := x_Clash, g_TooLarge := PySem.W.mg_of X G aCL, x_TooLarge := x_TooLarge, g_FormatError := PySem.W.mg_of X G aF, nLC := exm_gen eCCC iCCC tCCC sLC, clT := ⟨pgCT, hdCT, poCT, saCT⟩, nS := nCT_samples, nWo := nCT_words, nTr := nCT_tries }
  refine ⟨PySem.W.fnOf "law" "law" (defArgs s_law) (defBody s_law) (defScope s_law) .none kV31 dc31 pm31 an31 cd31 ct31, fun s v => .of_eq rfl, fun base _ _ => ?_⟩
  have c_whole : CalX P w K mg base CX0 1 "is_whole" spIsInt := ⟨_, _, _, ok_is_int F00 T0, g00, k00, b00⟩
  have c_cells : CalX P w K mg base CX0 2 "is_cells" spCells := ⟨_, _, _, ok_is_cells F01 T0 c_whole, g01, k01, b01⟩
  have c_wholes : CalX P w K mg base CX0 2 "is_wholes" spWholes := ⟨_, _, _, ok_is_wholes F02 T0 c_whole, g02, k02, b02⟩
  have c_rows : CalX P w K mg base CX0 1 "is_rows" spRows := ⟨_, _, _, ok_is_rows F03 T0, g03, k03, b03⟩
  have c_walk : CalX P w K mg base CX0 1 "walk" spWalk := ⟨_, _, _, ok_walk F04 T0, g04, k04, b04⟩
  have c_order : CalX P w K mg base CX0 1 "in_order" spOrder := ⟨_, _, _, ok_in_order F05 T0, g05, k05, b05⟩
  have c_beg : CalX P w K mg base CX0 2 "beginnings_of" spBeg := ⟨_, _, _, ok_beginnings F06 T0 c_order, g06, k06, b06⟩
  have n_row : MakX P w K mg base CX0 1 "RowState" CR (spInit CR) := ⟨_, _, _, ⟨mkCR, a07, i07, kcCR⟩, ok_r_init F07 T0, PySem.W.mg_of X G aCR, b07⟩
  have n_tries : MakX P w K mg base CX0 3 "RowTries" CT (spTInit CT) := ⟨_, _, _, ⟨mkCT, a12, i12, kcCT⟩, ok_t_init F12 T c_beg, PySem.W.mg_of X G aCT, b12⟩
  have m_forced : MetX P w K mg base CX0 1 CR "forced" (spForced CR) := ⟨_, _, _, ok_r_forced F09 T0, T0.cl, M09, b09⟩
  have m_give : MetX P w K mg base CX0 1 CR "give" (spGive CR) := ⟨_, _, _, ok_r_give F10 T0, T0.cl, M10, b10⟩
  have m_copied : MetX P w K mg base CX0 3 CR "copied" (spCopied CR) := ⟨_, _, _, ok_r_copied F08 T0 n_row, T0.cl, M08, b08⟩
  have m_rows : MetX P w K mg base CX0 1 CR "full_rows" (spRowsF CR) := ⟨_, _, _, ok_r_rows F11 T0, T0.cl, M11, b11⟩
  have m_go := all_go (P := P) (w := w) (base := base) T F13 M13 b13 F14 M14 b14 m_forced m_give m_copied 25
  have c_fewest : CalX P w K mg base (L2.CX P w) 55 "fewest" (spFewest CL CC) := ⟨_, _, _, ok_fewest (l := 54) (by decide) F15 T n_tries n_row m_go m_rows, g15, k15, b15⟩
  have c_bad : CalX P w K mg base CX0 3 "is_bad" (spIsBad CR) := ⟨_, _, _, ok_is_bad F16 T0 c_cells, g16, k16, b16⟩
  have c_bars := all_bars (P := P) (w := w) (base := base) T0 F17 g17 k17 b17 m_forced m_give m_copied c_bad
  have c_full : CalX P w K mg base CX0 3 "is_full_watcher" spFull := ⟨_, _, _, ok_full F18 T0 c_whole c_wholes c_rows, g18, k18, b18⟩
  have c_fits : CalX P w K mg base CX0 2 "watcher_fits" spFits := ⟨_, _, _, ok_fits F19 T0 c_walk, g19, k19, b19⟩
  have c_judge : CalX P w K mg base CX0 35 "judge_fewest" (spJudge 30) := ⟨_, _, _, ok_judge (n := 30) F20 T0 c_beg (c_bars 31) n_row c_full c_fits, g20, k20, b20⟩
  have c_begin : CalX P w K mg base CX0 1 "_law_begin" (spBegin K) := ⟨_, _, _, ok_begin F21 T0, g21, k21, b21⟩
  have c_draw : CalX P w K mg base CX0 1 "_law_draw" spDraw := ⟨_, _, _, ok_draw F22 T0, g22, k22, b22⟩
  have c_pick : CalX P w K mg base CX0 2 "_law_pick" spPick := ⟨_, _, _, ok_pick F23 T0 c_draw, g23, k23, b23⟩
  have c_lint : CalX P w K mg base CX0 1 "_law_is_int" spIsInt := ⟨_, _, _, ok_lint F24 T0, g24, k24, b24⟩
  have c_fit := all_fit (P := P) (w := w) (base := base) T0 F25 g25 k25 b25 7
  have c_samples : CalX P w K mg base CX0 3 "_law_samples" (spSamples 100) := ⟨_, _, _, ok_samples F26 T0 c_draw c_pick, g26, k26, b26⟩
  have c_least : CalX P w K mg base CX0 9 "_law_least" spLeast := ⟨_, _, _, ok_least F27 T0 c_fit, g27, k27, b27⟩
  have c_lfits : CalX P w K mg base CX0 2 "_law_fits" spLFits := ⟨_, _, _, ok_lfits F28 T0 c_lint, g28, k28, b28⟩
  have c_first : CalX P w K mg base CX0 1 "_law_first_in" spFirst := ⟨_, _, _, ok_first F29 T0, g29, k29, b29⟩
  have c_refusal : CalX P w K mg base CX0 56 "_law_refusal" spRefusal := ⟨_, _, _, ok_refusal (l := 55) F30 T c_fewest, g30, k30, b30⟩
  exact ok_law (l := 55) (by decide) F31 T c_begin c_samples c_draw c_least c_fewest c_judge c_lfits c_first c_refusal
theorem walk {l : PySem.W.OpenLaw} {q : Program} {loose : List Str} {XP : (Str → Option Value) → Heap → Prop} {YP : World → Heap → Prop} {d : DefRec} {K : Params → PySem.W.Frag} (hn : l.most = some 63) (hdf : d.params.defaults = [])
    (hY : ∀ (w : World) (h : Heap), YP w h → (K w.params).In h)
    (F : ∀ (w : World) (mg : Str → Option Value) (fa : Addr) (h : Heap), (K w.params).In h → h.Ns mainGlobals mg → mg d.name = some (.ref fa) →
      ∃ fd : FuncData, (∀ (s : Shared) (u : Value), BindsTo s fd ⟨[u], []⟩ [("script", u)]) ∧ ∀ base : Heap, (K w.params).In base → base.Ns mainGlobals mg → FnOk l.prog w (K w.params) mg base CX0 57 fa fd ["script"] (spLaw (K w.params))) :
    PySem.W.WalkO q loose XP YP l.row.toRowW d [] (fun f vs => PySem.call f vs) :=
  L2.walk_of (n := 63) (k := 57) (x := "script") (CX := fun _ => CX0) (sp := fun w => spLaw (K w.params)) hn (by decide) hdf ⟨rfl, by decide, by decide⟩ hY F (fun _ _ a ns hl _ hS => ⟨a, ns, rfl, hS, hl, fun _ => rfl⟩) fun _ _ _ _ _ z => z

end Toy

open PySem PySem.W PyProof.Rows in
set_option maxRecDepth 100000 in
set_option maxHeartbeats 0 in
theorem PySem.Challenge.cw_formatory_k81_fewest_rows_holds : PySem.Challenge.rw_formatory_k81_fewest_rows.Holds := by
  w_on; o_law; k_head; (case hw => w_witness2)
  k_fill
  refine Toy.walk (l := PySem.Challenge.rw_formatory_k81_fewest_rows) rfl rfl (fun w h Y => PySem.W.kIn_of Y) ?F
  case F =>
    intro w mg fa h KX G hmg
    refine' Toy.all_mk KX G hmg ?aF ?xF ?alF ?aCR ?pgCR ?hdCR ?poCR ?saCR ?mkCR ?kcCR ?nCR_given ?nCR_links ?nCR_used ?nCR_right_at ?nCR_wrong_at ?aCT ?pgCT ?hdCT ?poCT ?saCT ?mkCT ?kcCT ?nCT_samples ?nCT_words ?nCT_tries ?aCC ?xCC ?bmCC ?saCC ?gaCC ?ggCC ?noCC ?inCC ?tiCC ?kCCC ?eCCC ?vCCC ?mCCC ?tCCC ?hCCC ?iCCC ?sCCC ?fnCC ?cdCC ?ceCC ?coCC ?v2CC ?fiCC ?aCL ?xCL ?bmCL ?saCL ?gaCL ?ggCL ?noCL ?inCL ?tiCL ?kCCL ?eCCL ?vCCL ?mCCL ?tCCL ?hCCL ?iCCL ?sCCL ?fnCL ?cdCL ?ceCL ?coCL ?v2CL ?fiCL ?opq ?z_super ?topS ?a00 ?l00 ?c00 ?k00 ?a01 ?l01 ?c01 ?k01 ?a02 ?l02 ?c02 ?k02 ?a03 ?l03 ?c03 ?k03 ?a04 ?l04 ?c04 ?k04 ?a05 ?l05 ?c05 ?k05 ?a06 ?l06 ?c06 ?k06 ?a07 ?i07 ?l07 ?c07 ?k07 ?a08 ?i08 ?l08 ?c08 ?k08 ?a09 ?i09 ?l09 ?c09 ?k09 ?a10 ?i10 ?l10 ?c10 ?k10 ?a11 ?i11 ?l11 ?c11 ?k11 ?a12 ?i12 ?l12 ?c12 ?k12 ?a13 ?i13 ?l13 ?c13 ?k13 ?a14 ?i14 ?l14 ?c14 ?k14 ?a15 ?l15 ?c15 ?k15 ?a16 ?l16 ?c16 ?k16 ?a17 ?l17 ?c17 ?k17 ?a18 ?l18 ?c18 ?k18 ?a19 ?l19 ?c19 ?k19 ?a20 ?l20 ?c20 ?k20 ?a21 ?l21 ?c21 ?k21 ?a22 ?l22 ?c22 ?k22 ?a23 ?l23 ?c23 ?k23 ?a24 ?l24 ?c24 ?k24 ?a25 ?l25 ?c25 ?k25 ?a26 ?l26 ?c26 ?k26 ?a27 ?l27 ?c27 ?k27 ?a28 ?l28 ?c28 ?k28 ?a29 ?l29 ?c29 ?k29 ?a30 ?l30 ?c30 ?k30 ?a31 ?l31 ?c31 ?k31 ?z_len ?z_isinstance ?z_int ?z_bool ?z_tuple ?z_list ?z_range ?z_sorted ?z_enumerate ?z_max ?z_min ?z_dict ?z_abs ?g_MOST_BEGINNINGS ?g_MOST_TRIES ?sLC
    (case aF => k_is)
    (case xF => k_is)
    (case alF => k_is)
    (case aCR => k_is)
    (case pgCR => k_is)
    (case hdCR => k_is)
    (case poCR => k_is)
    (case saCR => k_is)
    (case mkCR => k_is)
    (case kcCR => k_is)
    (case nCR_given => k_is)
    (case nCR_links => k_is)
    (case nCR_used => k_is)
    (case nCR_right_at => k_is)
    (case nCR_wrong_at => k_is)
    (case aCT => k_is)
    (case pgCT => k_is)
    (case hdCT => k_is)
    (case poCT => k_is)
    (case saCT => k_is)
    (case mkCT => k_is)
    (case kcCT => k_is)
    (case nCT_samples => k_is)
    (case nCT_words => k_is)
    (case nCT_tries => k_is)
    (case aCC => k_is)
    (case xCC => k_is)
    (case bmCC => first | rfl | decide +kernel)
    (case saCC => k_is)
    (case gaCC => k_is)
    (case ggCC => k_is)
    (case noCC => k_is)
    (case inCC => k_is)
    (case tiCC => k_is)
    (case kCCC => k_is)
    (case eCCC => k_is)
    (case vCCC => k_is)
    (case mCCC => k_is)
    (case tCCC => k_is)
    (case hCCC => k_is)
    (case iCCC => k_is)
    (case sCCC => k_is)
    (case fnCC => k_is)
    (case cdCC => k_is)
    (case ceCC => k_is)
    (case coCC => k_is)
    (case v2CC => first | rfl | decide +kernel)
    (case fiCC => first | rfl | decide +kernel)
    (case aCL => k_is)
    (case xCL => k_is)
    (case bmCL => first | rfl | decide +kernel)
    (case saCL => k_is)
    (case gaCL => k_is)
    (case ggCL => k_is)
    (case noCL => k_is)
    (case inCL => k_is)
    (case tiCL => k_is)
    (case kCCL => k_is)
    (case eCCL => k_is)
    (case vCCL => k_is)
    (case mCCL => k_is)
    (case tCCL => k_is)
    (case hCCL => k_is)
    (case iCCL => k_is)
    (case sCCL => k_is)
    (case fnCL => k_is)
    (case cdCL => k_is)
    (case ceCL => k_is)
    (case coCL => k_is)
    (case v2CL => first | rfl | decide +kernel)
    (case fiCL => first | rfl | decide +kernel)
    (case opq => k_is)
    (case z_super => k_is)
    (case topS => first | rfl | decide +kernel)
    (case a00 => k_is)
    (case l00 => k_is)
    (case c00 => k_is)
    (case k00 => k_is)
    (case a01 => k_is)
    (case l01 => k_is)
    (case c01 => k_is)
    (case k01 => k_is)
    (case a02 => k_is)
    (case l02 => k_is)
    (case c02 => k_is)
    (case k02 => k_is)
    (case a03 => k_is)
    (case l03 => k_is)
    (case c03 => k_is)
    (case k03 => k_is)
    (case a04 => k_is)
    (case l04 => k_is)
    (case c04 => k_is)
    (case k04 => k_is)
    (case a05 => k_is)
    (case l05 => k_is)
    (case c05 => k_is)
    (case k05 => k_is)
    (case a06 => k_is)
    (case l06 => k_is)
    (case c06 => k_is)
    (case k06 => k_is)
    (case a07 => k_is)
    (case i07 => k_is)
    (case l07 => k_is)
    (case c07 => k_is)
    (case k07 => k_is)
    (case a08 => k_is)
    (case i08 => k_is)
    (case l08 => k_is)
    (case c08 => k_is)
    (case k08 => k_is)
    (case a09 => k_is)
    (case i09 => k_is)
    (case l09 => k_is)
    (case c09 => k_is)
    (case k09 => k_is)
    (case a10 => k_is)
    (case i10 => k_is)
    (case l10 => k_is)
    (case c10 => k_is)
    (case k10 => k_is)
    (case a11 => k_is)
    (case i11 => k_is)
    (case l11 => k_is)
    (case c11 => k_is)
    (case k11 => k_is)
    (case a12 => k_is)
    (case i12 => k_is)
    (case l12 => k_is)
    (case c12 => k_is)
    (case k12 => k_is)
    (case a13 => k_is)
    (case i13 => k_is)
    (case l13 => k_is)
    (case c13 => k_is)
    (case k13 => k_is)
    (case a14 => k_is)
    (case i14 => k_is)
    (case l14 => k_is)
    (case c14 => k_is)
    (case k14 => k_is)
    (case a15 => k_is)
    (case l15 => k_is)
    (case c15 => k_is)
    (case k15 => k_is)
    (case a16 => k_is)
    (case l16 => k_is)
    (case c16 => k_is)
    (case k16 => k_is)
    (case a17 => k_is)
    (case l17 => k_is)
    (case c17 => k_is)
    (case k17 => k_is)
    (case a18 => k_is)
    (case l18 => k_is)
    (case c18 => k_is)
    (case k18 => k_is)
    (case a19 => k_is)
    (case l19 => k_is)
    (case c19 => k_is)
    (case k19 => k_is)
    (case a20 => k_is)
    (case l20 => k_is)
    (case c20 => k_is)
    (case k20 => k_is)
    (case a21 => k_is)
    (case l21 => k_is)
    (case c21 => k_is)
    (case k21 => k_is)
    (case a22 => k_is)
    (case l22 => k_is)
    (case c22 => k_is)
    (case k22 => k_is)
    (case a23 => k_is)
    (case l23 => k_is)
    (case c23 => k_is)
    (case k23 => k_is)
    (case a24 => k_is)
    (case l24 => k_is)
    (case c24 => k_is)
    (case k24 => k_is)
    (case a25 => k_is)
    (case l25 => k_is)
    (case c25 => k_is)
    (case k25 => k_is)
    (case a26 => k_is)
    (case l26 => k_is)
    (case c26 => k_is)
    (case k26 => k_is)
    (case a27 => k_is)
    (case l27 => k_is)
    (case c27 => k_is)
    (case k27 => k_is)
    (case a28 => k_is)
    (case l28 => k_is)
    (case c28 => k_is)
    (case k28 => k_is)
    (case a29 => k_is)
    (case l29 => k_is)
    (case c29 => k_is)
    (case k29 => k_is)
    (case a30 => k_is)
    (case l30 => k_is)
    (case c30 => k_is)
    (case k30 => k_is)
    (case a31 => k_is)
    (case l31 => k_is)
    (case c31 => k_is)
    (case k31 => k_is)
    (case z_len => k_is)
    (case z_isinstance => k_is)
    (case z_int => k_is)
    (case z_bool => k_is)
    (case z_tuple => k_is)
    (case z_list => k_is)
    (case z_range => k_is)
    (case z_sorted => k_is)
    (case z_enumerate => k_is)
    (case z_max => k_is)
    (case z_min => k_is)
    (case z_dict => k_is)
    (case z_abs => k_is)
    (case g_MOST_BEGINNINGS => k_is)
    (case g_MOST_TRIES => k_is)
    (case sLC => k_is)
