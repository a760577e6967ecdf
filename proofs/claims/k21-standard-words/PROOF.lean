import PyProof.Rows.All
import Wide.All
import OpenK.AllK
import Wide.FinOn
import HandS.ForMost
import HandS.Conv
import HandS.TupAny
import HandS.Zip
import HandS.IsInst
import HandS.SortOrd
import HandS.NamedTupSort
import PyProof.P3Eq
import KE.GoesNew
import KE.GoesMore
import HandS.Dict
import HandS.Flow
import KE.BitLaws
import HandS.Codes
import HandS.Ends
import PySem.Challenge.RW_echowords_k21_whole_standard_words
set_option Elab.async false
set_option linter.all false
set_option maxRecDepth 100000
set_option maxHeartbeats 8000000
namespace Ek
open PySem PySem.Spec PyProof.Rows L2

/-! ### the lists of words at the library's level -/
section
variable {prog : Program} {w : World} {A : Around} {E : Value → Shared → Prop} {s : Shared}
/-- a tuple of d ints -/
def IsW (h : Heap) (d : Nat) (v : Value) (ns : List Int) : Prop := ∃ (t : Addr) (items : List Value), v = .ref t ∧ IsTup h t items.toArray ∧ IntsAre items ns ∧ ns.length = d
theorem IsW.keeps {h h' : Heap} {d : Nat} {v : Value} {ns : List Int} (i : IsW h d v ns) (k : ∀ b o, h.get? b = some o → o.cls = .type "tuple" → h'.get? b = some o) : IsW h' d v ns := by
  obtain ⟨t, its, e, ⟨o, ho, hc, n, hd⟩, hi, hl⟩ := i
  exact ⟨t, its, e, ⟨o, k t o ho hc, hc, n, hd⟩, hi, hl⟩
theorem kat_ints {Q : Bool → Shared → Prop} : ∀ (us vs : List Value) (ns ms : List Int) (i : Nat), IntsAre us ns → IntsAre vs ms → ns.length = ms.length → Q (HT.lexLt ns ms) s → PySem.W.KatLex prog w A true false Q (us.zip vs) i s
  | _, _, _, _, i, .nil, .nil, _, h => PySem.W.kat_nil h
  | _, _, _, _, _, .nil, .cons _ _ _, e, _ => by simp at e
  | _, _, _, _, _, .cons _ _ _, .nil, e, _ => by simp at e
  | _, _, _, _, i, .cons x t (vs := us) (ns := ns) r, .cons y u (vs := vs) (ns := ms) r', e, h => by
    rw [HT.lexLt_cons] at h
    show PySem.W.KatLex prog w A true false Q ((Value.int x t, Value.int y u) :: us.zip vs) i s
    refine PySem.W.kat_cons (SeqAt.EqAt.int_int x t y u prog w _ _ ?_)
    refine PySem.W.kat_go (fun e1 => ?_) (fun e1 => ?_)
    · have ex : x = y := by simpa using e1
      rw [if_pos ex] at h
      exact PySem.W.kat_yes (kat_ints us vs ns ms (i + 1) r r' (by simpa using e) h)
    · have ex : ¬ x = y := by simpa using e1
      rw [if_neg ex] at h
      refine PySem.W.kat_no ?_
      cases i with
      | zero => exact oneLt_int h
      | succ j => exact PySem.W.kat_one _ _ (PyProof.Rows.lt_int h)
theorem word_cmp {d : Nat} {vs : List Value} {k : Value → List Int} (hp : ∀ v ∈ vs, IsW s.heap d v (k v)) : SrtO.Cmp prog w A s (tuples' true) (fun p => p.1 ∈ vs) (SrtO.lt2 fun v u => HT.lexLt (k v) (k u)) := by
  intro p q hm hm'
  obtain ⟨t, its, e, ⟨o, ho, hc, n, hd⟩, hi, hl⟩ := hp _ hm
  obtain ⟨t', its', e', ⟨o', ho', hc', n', hd'⟩, hi', hl'⟩ := hp _ hm'
  show wpAny (model prog w) A (keyLt' (tuples' true) p.1 q.1) (fun r s' => s' = s ∧ r = HT.lexLt (k p.1) (k q.1)) (fun _ _ => False) s

  rw [e] at hi hl ⊢
  rw [e'] at hi' hl' ⊢
  refine PySem.W.kat_lt ho hd ho' hd' ?_
  have l1 : its.length = d := (IntsAre.length hi).trans hl
  have l2 : its'.length = d := (IntsAre.length hi').trans hl'
  have z : decide (its.toArray.size < its'.toArray.size) = false := by
    rw [List.size_toArray, List.size_toArray, l1, l2]
    exact decide_eq_false (Nat.lt_irrefl _)
  rw [z]
  exact kat_ints _ _ _ _ 0 hi hi' (by omega) ⟨rfl, rfl⟩
theorem firsts_w {d : Nat} (h1 : 1 ≤ d) : ∀ {vs : List Value} {k : Value → List Int}, (∀ v ∈ vs, IsW s.heap d v (k v)) → ∃ fs : List Value, PySem.W.KatTups s.heap vs fs ∧ fs.length = vs.length ∧ ∀ f ∈ fs, ∃ x t, f = Value.int x t
  | [], _, _ => ⟨[], PySem.W.KatTups.nil, rfl, fun _ h => by cases h⟩
  | v :: vs, k, h => by
    obtain ⟨fs, a1, a2, a3⟩ := firsts_w h1 (vs := vs) (k := k) fun u hu => h u (List.mem_cons_of_mem _ hu)
    obtain ⟨t, its, e, ⟨o, ho, hc, n, hd⟩, hi, hl⟩ := h v List.mem_cons_self
    generalize k v = ns at hi hl
    subst e
    cases hi with
    | nil => simp at hl; omega
    | cons x u r =>
      refine ⟨.int x u :: fs, PySem.W.KatTups.cons ho hc hd (by simp) a1, by simp [a2], fun f hf => ?_⟩
      rcases List.mem_cons.mp hf with q | q
      · exact ⟨x, u, q⟩
      · exact a3 f q
theorem words_sortable {a : Addr} {d : Nat} {vs : List Value} {k : Value → List Int} (h1 : 1 ≤ d) (h0 : 0 < vs.length) (hp : ∀ v ∈ vs, IsW s.heap d v (k v)) (ha : ∀ o, s.heap.get? a = some o → o.cls ≠ .type "tuple") :
    SrtO.SortableO prog w A s a vs fun v u => HT.lexLt (k v) (k u) := by
  intro h' keep
  have hp' : ∀ v ∈ vs, IsW h' d v (k v) := fun v hm => (hp v hm).keeps fun b o e c => keep b o (fun z => by subst z; exact ha o e c) e
  obtain ⟨fs, g1, g2, g3⟩ := firsts_w (s := { s with heap := h' }) h1 hp'
  refine ⟨tuples' true, fun Q E hq => ?_, word_cmp hp'⟩
  refine PySem.W.kat_kind (T := .type "int") g1 (by omega) (fun f hm => ?_) (by rfl) ?_
  · obtain ⟨x, t, rfl⟩ := g3 f hm
    exact PySem.W.Looks.now
  · have e : (Value.type "int" != Value.type "tuple") = true := by first | decide +kernel | rfl | decide
    rw [e]
    exact hq

/-! ### pairs of words -/
def IsWW (h : Heap) (d : Nat) (v : Value) (k : List Int × List Int) : Prop := ∃ (t t1 t2 : Addr), v = .ref t ∧ IsTup h t #[.ref t1, .ref t2] ∧ IsW h d (.ref t1) k.1 ∧ IsW h d (.ref t2) k.2
theorem IsTup.keepT {h h' : Heap} {t : Addr} {xs : Array Value} (i : IsTup h t xs) (k : ∀ b o, h.get? b = some o → o.cls = .type "tuple" → h'.get? b = some o) : IsTup h' t xs := by
  obtain ⟨o, ho, hc, n, hd⟩ := i
  exact ⟨o, k t o ho hc, hc, n, hd⟩
theorem IsWW.keeps {h h' : Heap} {d : Nat} {v : Value} {q : List Int × List Int} (i : IsWW h d v q) (k : ∀ b o, h.get? b = some o → o.cls = .type "tuple" → h'.get? b = some o) : IsWW h' d v q := by
  obtain ⟨t, t1, t2, e, ht, h1, h2⟩ := i
  exact ⟨t, t1, t2, e, IsTup.keepT ht k, h1.keeps k, h2.keeps k⟩
/-- one pair ahead of another one -/
def ltWW (x y : List Int × List Int) : Bool := if x.1 = y.1 then HT.lexLt x.2 y.2 else HT.lexLt x.1 y.1
theorem lex_anti : ∀ xs ys : List Int, HT.lexLt xs ys = false → HT.lexLt ys xs = false → xs = ys
  | [], [], _, _ => rfl
  | [], y :: ys, h, _ => by rw [HT.lexLt_nil_cons] at h; cases h
  | x :: xs, [], _, h => by rw [HT.lexLt_nil_cons] at h; cases h
  | x :: xs, y :: ys, h1, h2 => by
    rw [HT.lexLt_cons] at h1 h2
    by_cases e : x = y
    · rw [if_pos e] at h1
      rw [if_pos e.symm] at h2
      rw [e, lex_anti xs ys h1 h2]
    · rw [if_neg e] at h1
      rw [if_neg fun q => e q.symm] at h2
      have a := of_decide_eq_false h1
      have b := of_decide_eq_false h2
      omega
theorem swoWW : SrtO.Swo ltWW := by
  have S : SrtO.Swo HT.lexLt := NtL.swo_lexL (α := List Int) id
  refine ⟨fun x y h => ?_, fun x y z h1 h2 => ?_⟩
  · unfold ltWW at h ⊢
    by_cases e : x.1 = y.1
    · rw [if_pos e] at h
      rw [if_pos e.symm]
      exact S.asym _ _ h
    · rw [if_neg e] at h
      rw [if_neg fun q => e q.symm]
      exact S.asym _ _ h
  · unfold ltWW at h1 h2 ⊢
    by_cases e1 : y.1 = x.1
    · rw [if_pos e1] at h1
      by_cases e2 : z.1 = y.1
      · rw [if_pos e2] at h2
        rw [if_pos (e2.trans e1)]
        exact S.tr _ _ _ h1 h2
      · rw [if_neg e2] at h2
        rw [e1] at h2 e2
        rw [if_neg e2]
        exact h2
    · rw [if_neg e1] at h1
      by_cases e2 : z.1 = y.1
      · rw [e2, if_neg e1]
        exact h1
      · rw [if_neg e2] at h2
        have h3 := S.tr _ _ _ h1 h2
        by_cases e3 : z.1 = x.1
        · rw [e3] at h2 e2
          exact absurd (lex_anti _ _ h2 h1) e2
        · rw [if_neg e3]
          exact h3
theorem reads_ints {h : Heap} : ∀ {us : List Value} {ns : List Int}, IntsAre us ns → ∃ as, ReadsAll h us (ns.map PyData.int) as
  | _, _, .nil => ⟨_, ReadsAll.nil⟩
  | _, _, .cons x t r => by
    obtain ⟨as, q⟩ := reads_ints (h := h) r
    exact ⟨_, ReadsAll.cons (Reads.int x t) q⟩
theorem eqv_ints : ∀ ns ms : List Int, PyData.eqvAll (ns.map PyData.int) (ms.map PyData.int) = decide (ns = ms)
  | [], [] => rfl
  | [], m :: ms => by simp [PyData.eqvAll]
  | n :: ns, [] => by simp [PyData.eqvAll]
  | n :: ns, m :: ms => by
    rw [List.map_cons, List.map_cons, PyData.eqvAll, eqv_ints ns ms, PyData.eqv]
    by_cases e : n = m <;> by_cases e2 : ns = ms <;> simp [e, e2]
theorem lay_ints : ∀ ns : List Int, PyData.canLayAll0 (ns.map PyData.int) = true
  | [] => by simp [PyData.canLayAll0]
  | n :: ns => by rw [List.map_cons, PyData.canLayAll0, lay_ints ns]; simp [PyData.canLay0]
theorem deep_ints : ∀ ns : List Int, PyData.depthAll (ns.map PyData.int) ≤ 1
  | [] => by simp [PyData.depthAll]
  | n :: ns => by
    have := deep_ints ns
    rw [List.map_cons, PyData.depthAll, PyData.depth]
    omega
theorem eq_words {d : Nat} {t t' : Addr} {ns ms : List Int} {Q : Bool → Shared → Prop} (hu : A.units + 2 < cLine) (h1 : IsW s.heap d (.ref t) ns) (h2 : IsW s.heap d (.ref t') ms) (h : Q (decide (ns = ms)) s) :
    wpAny (model prog w) A (eqBool (.ref t) (.ref t')) Q E s := by
  obtain ⟨_, its, e, ⟨o, ho, hc, n, hd⟩, hi, hl⟩ := h1
  cases e
  obtain ⟨_, its', e', ⟨o', ho', hc', n', hd'⟩, hi', hl'⟩ := h2
  cases e'
  obtain ⟨as, r1⟩ := reads_ints (h := s.heap) hi
  obtain ⟨bs, r2⟩ := reads_ints (h := s.heap) hi'
  have q := SeqAt.eqAt_reads (.tuple (ns.map PyData.int)) (.tuple (ms.map PyData.int)) A s (.ref t) (.ref t') _ _ (Reads.tuple ho hc hd r1) (Reads.tuple ho' hc' hd' r2)
    (by rw [PyData.canLay0]; exact lay_ints ns) (by rw [PyData.canLay0]; exact lay_ints ms) (by
      have := deep_ints ns
      rw [PyData.depth, PyData.depth]
      omega)
  rw [PyData.eqv, eqv_ints] at q
  exact q prog w E Q h
theorem lt_words {d : Nat} {t t' : Addr} {ns ms : List Int} {Q : Value → Shared → Prop} (hu : A.units + 2 < cLine) (h1 : IsW s.heap d (.ref t) ns) (h2 : IsW s.heap d (.ref t') ms) (h : Q (.bool (HT.lexLt ns ms)) s) :
    wpAny (model prog w) A (compareOp .Lt (.ref t) (.ref t')) Q E s := by
  obtain ⟨_, its, e, ht, hi, hl⟩ := h1
  cases e
  obtain ⟨_, its', e', ht', hi', hl'⟩ := h2
  cases e'
  exact HT.lt_tupInts ht ht' hi hi' (by omega) h
theorem pair_cmpW {d : Nat} {vs : List Value} {k : Value → List Int × List Int} (hu : A.units + 2 < cLine) (hp : ∀ v ∈ vs, IsWW s.heap d v (k v)) : SrtO.Cmp prog w A s (tuples' false) (fun p => p.1 ∈ vs) (SrtO.lt2 fun v u => ltWW (k v) (k u)) := by
  intro p q hm hm'
  obtain ⟨t, t1, t2, e, ⟨o, ho, hc, n, hd⟩, a1, a2⟩ := hp _ hm
  obtain ⟨t', t1', t2', e', ⟨o', ho', hc', n', hd'⟩, a1', a2'⟩ := hp _ hm'
  show wpAny (model prog w) A (keyLt' (tuples' false) p.1 q.1) (fun r s' => s' = s ∧ r = ltWW (k p.1) (k q.1)) (fun _ _ => False) s
  rw [e] at a1 a2 ⊢
  rw [e'] at a1' a2' ⊢
  generalize k (.ref t) = x at a1 a2 ⊢
  generalize k (.ref t') = y at a1' a2' ⊢
  refine PySem.W.kat_lt ho hd ho' hd' ?_
  show PySem.W.KatLex prog w A false (decide (2 < 2)) _ [(.ref t1, .ref t1'), (.ref t2, .ref t2')] 0 s
  refine PySem.W.kat_cons (eq_words hu a1 a1' ?_)
  refine PySem.W.kat_go (fun e1 => ?_) (fun e1 => ?_)
  · have ex : x.1 = y.1 := by simpa using e1
    refine PySem.W.kat_yes (PySem.W.kat_cons (eq_words hu a2 a2' ?_))
    refine PySem.W.kat_go (fun e2 => ?_) (fun e2 => ?_)
    · have ey : x.2 = y.2 := by simpa using e2
      refine PySem.W.kat_yes (PySem.W.kat_nil ⟨rfl, ?_⟩)
      unfold ltWW
      have z : HT.lexLt y.2 y.2 = false := (NtL.swo_lexL (α := List Int) id).refl y.2
      rw [if_pos ex, ey, z]
      rfl
    · refine PySem.W.kat_no (PySem.W.kat_one _ _ (lt_words hu a2 a2' ?_))
      refine ⟨rfl, ?_⟩
      unfold ltWW
      rw [if_pos ex]
  · have ex : ¬ x.1 = y.1 := by simpa using e1
    refine PySem.W.kat_no (PySem.W.kat_one _ _ (lt_words hu a1 a1' ?_))
    refine ⟨rfl, ?_⟩
    unfold ltWW
    rw [if_neg ex]
theorem firsts_ww {d : Nat} : ∀ {vs : List Value} {k : Value → List Int × List Int}, (∀ v ∈ vs, IsWW s.heap d v (k v)) → ∃ fs : List Value, PySem.W.KatTups s.heap vs fs ∧ fs.length = vs.length ∧ ∀ f ∈ fs, ∃ t o, f = Value.ref t ∧ s.heap.get? t = some o ∧ o.cls = .type "tuple"
  | [], _, _ => ⟨[], PySem.W.KatTups.nil, rfl, fun _ h => by cases h⟩
  | v :: vs, k, h => by
    obtain ⟨fs, a1, a2, a3⟩ := firsts_ww (vs := vs) (k := k) fun u hu => h u (List.mem_cons_of_mem _ hu)
    obtain ⟨t, t1, t2, e, ⟨o, ho, hc, n, hd⟩, ⟨_, its, e1, ⟨o1, ho1, hc1, _⟩, _, _⟩, _⟩ := h v List.mem_cons_self
    cases e1
    subst e
    refine ⟨.ref t1 :: fs, PySem.W.KatTups.cons ho hc hd (by simp) a1, by simp [a2], fun f hf => ?_⟩
    rcases List.mem_cons.mp hf with q | q
    · exact ⟨t1, o1, q, ho1, hc1⟩
    · exact a3 f q
theorem pairs_sortableW {a : Addr} {d : Nat} {vs : List Value} {k : Value → List Int × List Int} (hu : A.units + 2 < cLine) (h0 : 0 < vs.length) (hp : ∀ v ∈ vs, IsWW s.heap d v (k v)) (ha : ∀ o, s.heap.get? a = some o → o.cls ≠ .type "tuple") :
    SrtO.SortableO prog w A s a vs fun v u => ltWW (k v) (k u) := by
  intro h' keep
  have hp' : ∀ v ∈ vs, IsWW h' d v (k v) := fun v hm => (hp v hm).keeps fun b o e c => keep b o (fun z => by subst z; exact ha o e c) e
  obtain ⟨fs, g1, g2, g3⟩ := firsts_ww (s := { s with heap := h' }) hp'
  refine ⟨tuples' false, fun Q E hq => ?_, pair_cmpW hu hp'⟩
  refine PySem.W.kat_kind (T := .type "tuple") g1 (by omega) (fun f hm => ?_) (by rfl) ?_
  · obtain ⟨t, o, rfl, ho, hc⟩ := g3 f hm
    rw [← hc]
    exact (PySem.W.Looks.ld ho).andThen .now
  · have e : (Value.type "tuple" != Value.type "tuple") = false := by first | decide +kernel | rfl | decide
    rw [e]
    exact hq
end

/-! ### as rules of the layer -/
section
/-- the ints of a tuple of ints at t -/
def unI : V → Int
  | .int i => i
  | _ => 0
def wordAt (H : Hp) (t : Addr) : List Int := match H t with
  | some (.tup xs) => xs.map unI
  | _ => []
theorem wordAt_of {H : Hp} {t : Addr} {ns : List Int} (h : H t = some (.tup (ns.map V.int))) : wordAt H t = ns := by
  unfold wordAt
  rw [h]
  show (ns.map V.int).map unI = ns
  rw [List.map_map]
  exact (List.map_congr_left fun _ _ => rfl).trans (List.map_id ns)
def fstA : List V → Addr
  | [.ref t, _] => t
  | _ => 0
def sndA : List V → Addr
  | [_, .ref t] => t
  | _ => 0
def pairAt (H : Hp) (t : Addr) : List Int × List Int := match H t with
  | some (.tup xs) => (wordAt H (fstA xs), wordAt H (sndA xs))
  | _ => ([], [])
theorem isW_of {P : Program} {w : World} {H : Hp} {h : Heap} {t : Addr} {ns : List Int} (ok : HOk P w H h) (e : H t = some (.tup (ns.map V.int))) : IsW h ns.length (.ref t) ns := by
  obtain ⟨hz, its, rv, it⟩ := (show ObjOk P w H h t (.tup (ns.map V.int)) from ok t _ e)
  exact ⟨t, its, rfl, it, Vals.ints rv, rfl⟩
theorem wordAt_same {H H' : Hp} {t : Addr} (h : H' t = H t) : wordAt H' t = wordAt H t := by unfold wordAt; rw [h]
theorem keys_words {P : Program} {w : World} {H : Hp} : ∀ {kvs : List (List L2.Key × V)} {ks : List (List L2.Key × Addr × Value)} {nss : List (List Int)},
    Paired (fun (p : List L2.Key × V) (q : List L2.Key × Addr × Value) => p.1 = q.1 ∧ H q.2.1 = some (.tup (p.1.map kV)) ∧ RelV p.2 q.2.2) kvs ks → kvs.map (·.1) = nss.map (·.map Sum.inl) →
    Paired (fun (b : Addr) (ns : List Int) => H b = some (.tup (ns.map V.int))) (ks.map fun x => x.2.1) nss
  | _, _, [], .nil, _ => .nil
  | _, _, _ :: _, .nil, h => by cases h
  | _, _, [], .cons _ _, h => by cases h
  | _, _, ns :: nss, .cons r t, h => by
    rw [List.map_cons, List.map_cons] at h
    obtain ⟨h1, h2⟩ := List.cons.inj h
    rw [List.map_cons]
    refine .cons ?_ (keys_words (P := P) (w := w) t h2)
    rw [r.2.1, h1, List.map_map]
    rfl
theorem paired_word {H : Hp} : ∀ {bs : List Addr} {nss : List (List Int)}, Paired (fun (b : Addr) (ns : List Int) => H b = some (.tup (ns.map V.int))) bs nss → bs.map (wordAt H) = nss
  | _, _, .nil => rfl
  | _, _, .cons r t => by rw [List.map_cons, wordAt_of r, paired_word t]
theorem paired_mem {H : Hp} : ∀ {bs : List Addr} {nss : List (List Int)}, Paired (fun (b : Addr) (ns : List Int) => H b = some (.tup (ns.map V.int))) bs nss → ∀ b ∈ bs, H b = some (.tup ((wordAt H b).map V.int)) ∧ wordAt H b ∈ nss
  | _, _, .nil, _, h => by cases h
  | _, _, .cons r t, b, h => by
    rcases List.mem_cons.mp h with e | e
    · subst e
      rw [wordAt_of r]
      exact ⟨r, List.mem_cons_self⟩
    · obtain ⟨h1, h2⟩ := paired_mem t b e
      exact ⟨h1, List.mem_cons_of_mem _ h2⟩
theorem paired_of {H : Hp} : ∀ {ts : List Addr}, (∀ b ∈ ts, H b = some (.tup ((wordAt H b).map V.int))) → Paired (fun (b : Addr) (ns : List Int) => H b = some (.tup (ns.map V.int))) ts (ts.map (wordAt H))
  | [], _ => .nil
  | t :: ts, h => .cons (h t List.mem_cons_self) (paired_of fun b m => h b (List.mem_cons_of_mem _ m))
/-- sorted(xs), xs a list of pairs of words: some arrangement -/
def rSortWW : List V → Hp → VK → Prop := fun vs H Q => ∃ (a : Addr) (ts : List Addr) (d : Nat), vs = [V.ref a] ∧ H a = some (.lst (ts.map V.ref)) ∧
  (∀ t ∈ ts, ∃ (t1 t2 : Addr) (ns ms : List Int), H t = some (.tup [.ref t1, .ref t2]) ∧ H t1 = some (.tup (ns.map V.int)) ∧ H t2 = some (.tup (ms.map V.int)) ∧ ns.length = d ∧ ms.length = d) ∧
  ∀ (ts' : List Addr) (p : Addr), ts'.Perm ts → H p = none → Q (.ref p) (upd H p (.lst (ts'.map V.ref)))
/-- sorted(d), d a dict with words as keys -/
def rSortDW : List V → Hp → VK → Prop := fun vs H Q => ∃ (a : Addr) (kvs : List (List L2.Key × V)) (nss : List (List Int)) (d : Nat), vs = [V.ref a] ∧ H a = some (.dT kvs) ∧ kvs.map (·.1) = nss.map (·.map Sum.inl) ∧ 1 ≤ d ∧ (∀ ns ∈ nss, ns.length = d) ∧
  ∀ (ts : List Addr) (mss : List (List Int)) (p : Addr), mss.Perm nss → mss.Pairwise (fun x y => HT.lexLt y x = false) → Paired (fun t ms => H t = some (.tup (ms.map V.int))) ts mss → H p = none → Q (.ref p) (upd H p (.lst (ts.map V.ref)))
section
variable {X : Cx}
theorem cr_sortedWW (hu : X.A.units + 4 < cLine) : CallR X (.builtin "sorted") rSortWW := by
  intro pins s σ H vs us Q I r h
  obtain ⟨a, ts, d, rfl, ha, hx, q⟩ := h
  obtain ⟨its, rv, hl, hz⟩ := I.list (.inl (.inl ha))
  obtain ⟨u, rfl, ru⟩ := vals1 r
  obtain rfl : u = Value.ref a := ru
  have ei : its = ts.map Value.ref := nts_of rv
  have hzs : its.length ≤ sizeLine := by rw [← rv.length]; exact hz
  have hp : ∀ v ∈ its, IsWW s.heap d v (pairAt H (adO v)) := fun v hv => by
    rw [ei] at hv
    obtain ⟨t, ht, rfl⟩ := List.mem_map.mp hv
    obtain ⟨t1, t2, ns, ms, e, e1, e2, l1, l2⟩ := hx t ht
    obtain ⟨_, its2, r2, it⟩ := (show ObjOk X.prog X.w H s.heap t (.tup [.ref t1, .ref t2]) from I.hok t _ e)
    obtain ⟨u1, u2, rfl, q1, q2⟩ := vals2 r2
    cases q1
    cases q2
    have ep : pairAt H (adO (.ref t)) = (ns, ms) := by
      show pairAt H t = _
      unfold pairAt
      rw [e]
      show (wordAt H t1, wordAt H t2) = _
      rw [wordAt_of e1, wordAt_of e2]
    rw [ep]
    have w1 := isW_of (h := s.heap) I.hok e1
    have w2 := isW_of (h := s.heap) I.hok e2
    rw [l1] at w1
    rw [l2] at w2
    exact ⟨t, t1, t2, rfl, it, w1, w2⟩
  have O : SrtO.Swo (fun v u : Value => ltWW (pairAt H (adO v)) (pairAt H (adO u))) := ⟨fun x y => swoWW.asym _ _, fun x y z => swoWW.tr _ _ _⟩
  refine SrtO.sorted_ord O hl.isList hzs (fun h2 h₁ b hb kk => ?_) fun out hs hb => ?_
  · refine pairs_sortableW (s := { s with heap := h₁ }) (by show X.A.units + 1 + 1 + 2 < cLine; omega) (by omega) (fun v hm => (hp v hm).keeps fun b o e _ => (kk b o e).2) fun o e => ?_
    have e' : some o = some (seqObj "list" its.toArray 0) := e.symm.trans hb
    cases e'
    intro c
    exact absurd (Value.type.inj c) (by decide)
  · have eo : out = (out.map adO).map Value.ref := ref_map fun u hm => by
      have hm' : u ∈ its := hb.perm.mem_iff.mp hm
      rw [ei] at hm'
      obtain ⟨t, _, e⟩ := List.mem_map.mp hm'
      exact ⟨t, e.symm⟩
    have hpm : (out.map adO).Perm ts := by
      have p1 := hb.perm.map adO
      rw [ei, ad_map] at p1
      exact p1
    have rvo : Vals ((out.map adO).map V.ref) out := by
      have z := of_nts (out.map adO)
      rw [← eo] at z
      exact z
    have hlen : ((out.map adO).map V.ref).length ≤ sizeLine := by
      rw [List.length_map, hpm.length_eq]
      rw [List.length_map] at hz
      exact hz
    obtain ⟨n, hn⟩ := sortedAll_at s.heap its out.toArray
    have hf : s.heap.objs.size ≤ s.heap.objs.size + 1 := Nat.le_succ _
    refine ⟨.ref (s.heap.objs.size + 1), upd H (s.heap.objs.size + 1) (.lst ((out.map adO).map V.ref)), I.laid (t' := s.toks) (fun b o e => sortedAll_old e) hf ⟨hlen, out, n, rvo, hn⟩, rfl, q _ _ hpm (I.hok.fresh hf)⟩
theorem cr_sortedDW (hcalm : X.calm = true) : CallR X (.builtin "sorted") rSortDW := by
  intro pins s σ H vs us Q I r h
  obtain ⟨a, kvs, nss, d, rfl, ha, hks, hd1, hdl, q⟩ := h
  obtain ⟨u, rfl, ru⟩ := vals1 r
  obtain rfl : u = Value.ref a := ru
  obtain ⟨z, lo, ks, pr, o, es, ep, ho, hx, hdt, he, hn⟩ := (show ObjOk X.prog X.w H s.heap a (.dT kvs) from I.hok a _ ha)
  have l1 : es.size = ks.length := size_of_entries he
  have l2 : kvs.length = ks.length := Paired.length pr
  refine Calls.call_function_entry PyProof.Rows.kind_sorted PyProof.Rows.plain_sorted PyProof.Rows.entry_sorted (PyProof.Rows.args_sorted1 _) ?_
  unfold Builtin.«sorted»
  refine wpAny_bind (m := checkCount "sorted" 1 1 _) (wpAny_pure ?_)
  refine wpAny_bind (PySem.W.kdu_collect (A := X.A.in1) (kdl_raw lo hx hdt) (I.ok.hd hcalm) ho (by omega) fun h' tk acc hk it => ?_)
  have ea : acc.toList = (ks.map fun x => x.2.1).map Value.ref := by
    have hl : acc.toList.length = ks.length := by rw [Array.length_toList, it.1]; exact l1
    rw [List.map_map]
    apply List.ext_getElem?
    intro j
    rw [List.getElem?_map]
    cases hj : acc.toList[j]? with
    | none =>
      have h1 := List.getElem?_eq_none_iff.mp hj
      rw [List.getElem?_eq_none (by omega)]
      all_goals rfl
    | some v =>
      obtain ⟨en, hen, hv⟩ := it.2 j v (by rw [← Array.getElem?_toList]; exact hj)
      have qe := entry_at he j
      rw [hen] at qe
      cases hb : ks[j]? with
      | none =>
        rw [hb] at qe
        exact nomatch (show some en = none from qe)
      | some b =>
        rw [hb] at qe
        have e2 : en = entryOfKey (tupleKind (mixKind X.prog X.w)) b := Option.some.inj qe
        rw [hv, e2]
        all_goals rfl
  have kw := keys_words (P := X.prog) (w := X.w) pr hks
  generalize hbs : (ks.map fun x => x.2.1) = bs at ea kw
  have hbl : bs.length = ks.length := by rw [← hbs, List.length_map]
  have hal : acc.toList.length = ks.length := by rw [ea, List.length_map]; exact hbl
  have I1 : Inv X pins σ H { s with heap := h', toks := tk } := I.kept hk
  have hp : ∀ v ∈ acc.toList, IsW h' d v (wordAt H (adO v)) := fun v hv => by
    rw [ea] at hv
    obtain ⟨t, ht, rfl⟩ := List.mem_map.mp hv
    obtain ⟨w1, w2⟩ := paired_mem kw t ht
    have w3 := isW_of (h := h') I1.hok w1
    rw [hdl _ w2] at w3
    exact w3
  have O : SrtO.Swo (fun v u : Value => HT.lexLt (wordAt H (adO v)) (wordAt H (adO u))) := NtL.swo_lexL fun v => wordAt H (adO v)
  refine wpAny_bind (wpAny_newList ?_ (by rw [hal]; omega))
  have hoL : (h'.push (seqObj "list" acc.toList.toArray 0)).get? h'.objs.size = some (seqObj "list" acc.toList.toArray 0) := Heap.get?_push_size _ rfl
  show wpAny _ _ _ _ _ { s with heap := h'.push (seqObj "list" acc.toList.toArray 0), toks := tk }
  refine wpAny_bind (wpAny_holding (wpAny_call_entry PyProof.Rows.slot_list_sort ⟨_, hoL, rfl⟩ PyProof.Rows.entry_list_sort
    (SrtO.list_sort_ord (s := { s with heap := h'.push (seqObj "list" acc.toList.toArray 0), toks := tk }) O hoL (by rw [hal]; omega) (fun h2 => ?srt) fun out hs hb => ⟨_, rfl, ?fin⟩)
    (PyProof.Rows.args_list_sort _)))
  case srt =>
    refine words_sortable hd1 (by omega) (fun v hm => (hp v hm).keeps fun b o e _ => Heap.get?_push_of_some _ e) fun o e => ?_
    have e' : some o = some (seqObj "list" acc.toList.toArray 0) := e.symm.trans hoL
    cases e'
    intro c
    exact absurd (Value.type.inj c) (by decide)
  case fin =>
    have eo : out = (out.map adO).map Value.ref := ref_map fun u hm => by
      have hm' : u ∈ acc.toList := hb.perm.mem_iff.mp hm
      rw [ea] at hm'
      obtain ⟨t, _, e⟩ := List.mem_map.mp hm'
      exact ⟨t, e.symm⟩
    have hpm : (out.map adO).Perm bs := by
      have p1 := hb.perm.map adO
      rw [ea, ad_map] at p1
      exact p1
    have rvo : Vals ((out.map adO).map V.ref) out := by
      have z := of_nts (out.map adO)
      rw [← eo] at z
      exact z
    have hlen : ((out.map adO).map V.ref).length ≤ sizeLine := by
      rw [List.length_map, hpm.length_eq]
      omega
    have hp2 : ((out.map adO).map (wordAt H)).Perm nss := by
      rw [← paired_word kw]
      exact hpm.map _
    have hs2 : ((out.map adO).map (wordAt H)).Pairwise (fun x y => HT.lexLt y x = false) := by
      rw [List.map_map]
      exact List.pairwise_map.mpr (hs.imp fun {x y} z => z)
    have hpa : Paired (fun (b : Addr) (ns : List Int) => H b = some (.tup (ns.map V.int))) (out.map adO) ((out.map adO).map (wordAt H)) := paired_of fun b hb' => (paired_mem kw b (hpm.mem_iff.mp hb')).1
    obtain ⟨e', he'⟩ := PyProof.Rows.sortedHeap_at (vs := acc.toList) (out := out.toArray) hoL
    refine wpAny_pure ⟨_, rfl, .ref h'.objs.size, upd H h'.objs.size (.lst ((out.map adO).map V.ref)), I1.laid (t' := tk) (fun b u e => ?_) (Nat.le_refl _)
      (show ObjOk X.prog X.w _ _ _ (.lst ((out.map adO).map V.ref)) from ⟨hlen, out, e', rvo, he'⟩), rfl, q _ _ _ hp2 hs2 hpa (I1.hok.fresh (Nat.le_refl _))⟩
    have hb : b < h'.objs.size := Heap.lt_size e
    rw [PyProof.Rows.sortedHeap_old (Nat.ne_of_lt hb) (by rw [size_push']; exact Nat.lt_succ_of_lt hb)]
    exact Heap.get?_push_of_some _ e
end
end
end Ek
namespace Ek
open PySem PySem.Spec PyProof.Rows L2

/-- the tuples at a, b, c as they stand at each turn, the items in new triples -/
def Itz3 (K : PySem.W.Frag) (a b c : Addr) : It :=
  ⟨fun i H => ∃ (xs ys zs : List V) (x y z : V), SqT K H a xs ∧ SqT K H b ys ∧ SqT K H c zs ∧ xs[i]? = some x ∧ ys[i]? = some y ∧ zs[i]? = some z,
    fun i H v H' => ∃ T x y z, v = .ref T ∧ H T = none ∧ H' = upd H T (.tup [x, y, z]) ∧ (∀ xs, SqT K H a xs → xs[i]? = some x) ∧ (∀ ys, SqT K H b ys → ys[i]? = some y) ∧ ∀ zs, SqT K H c zs → zs[i]? = some z,
    fun i H => ∃ xs ys zs : List V, SqT K H a xs ∧ SqT K H b ys ∧ SqT K H c zs ∧ xs.length = i ∧ ys.length = i ∧ zs.length = i⟩
theorem turn_zip3 {P : Program} {w : World} {K : PySem.W.Frag} {elts : List Expr} {kk : Nat} {tpos : Pos} {a b c z TI TO i1 i2 i3 : Addr} (S : ZipSep3 z TI TO i1 i2 i3 [i1, a] [i2, b] [i3, c]) (h1n : a ≠ i1) (h2n : b ≠ i2) (h3n : c ≠ i3) :
    Turn P w K (.Tuple elts kk tpos) (Itz3 K a b c) [z, TI, TO, i1, i2, i3] z (fun i h => IsZip h z TI TO .none ∧ IsTupOf3 h TI (.ref i1) (.ref i2) (.ref i3) ∧ (∃ x y u, IsTupOf3 h TO x y u) ∧ h.IsTupleIter i1 a i ∧ h.IsTupleIter i2 b i ∧ h.IsTupleIter i3 c i) where
  mem := by simp
  obj := fun i h st d hd => by
    obtain ⟨hz, hTI, ⟨x, y, u, hTO⟩, ⟨o1, e1, _, d1⟩, ⟨o2, e2, _, d2⟩, ⟨o3, e3, _, d3⟩⟩ := st
    have e' : d = z ∨ d = TI ∨ d = TO ∨ d = i1 ∨ d = i2 ∨ d = i3 := by simpa using hd
    rcases e' with q | q | q | q | q | q
    · rw [q]; exact ⟨_, hz, fun v q => nomatch q⟩
    · rw [q]; exact ⟨_, hTI, fun v q => nomatch q⟩
    · rw [q]; exact ⟨_, hTO, fun v q => nomatch q⟩
    · rw [q]; exact ⟨o1, e1, fun v q => by rw [d1] at q; cases q⟩
    · rw [q]; exact ⟨o2, e2, fun v q => by rw [d2] at q; cases q⟩
    · rw [q]; exact ⟨o3, e3, fun v q => by rw [d3] at q; cases q⟩
  keep := fun i h h' st k => by
    obtain ⟨hz, hTI, ⟨x, y, u, hTO⟩, h1, h2, h3⟩ := st
    exact ⟨k z (by simp) _ hz, k TI (by simp) _ hTI, ⟨x, y, u, k TO (by simp) _ hTO⟩, h1.at fun o q => k i1 (by simp) o q, h2.at fun o q => k i2 (by simp) o q, h3.at fun o q => k i3 (by simp) o q⟩
  item := by
    intro X hP hw hK hc i pins s σ H E I hf st hg
    subst hP hw hK
    obtain ⟨hz, hTI, hTO, h1, h2, h3⟩ := st
    obtain ⟨xs, ys, zs, x, y, u, hqx, hqy, hqz, hx, hy, hu⟩ := hg
    obtain ⟨its, rv, p, _⟩ := I.tuple hqx
    obtain ⟨its2, rv2, p2, _⟩ := I.tuple hqy
    obtain ⟨its3, rv3, p3, _⟩ := I.tuple hqz
    obtain ⟨v1, hv1, r1⟩ := rv.get hx
    obtain ⟨v2, hv2, r2⟩ := rv2.get hy
    obtain ⟨v3, hv3, r3⟩ := rv3.get hu
    have hh : X.A.in1.handled = none := I.ok.hd hc
    have G := GoesN.zip3 (prog := X.prog) (w := X.w) (A := X.A) (elts := elts) (x1 := kk) (pos := tpos) S (Draws.tuple hh i1 a h1n its.toArray) (Draws.tuple hh i2 b h2n its2.toArray) (Draws.tuple hh i3 c h3n its3.toArray)
    have l1 : i < its.length := (List.getElem?_eq_some_iff.mp hv1).1
    have l2 : i < its2.length := (List.getElem?_eq_some_iff.mp hv2).1
    have l3 : i < its3.length := (List.getElem?_eq_some_iff.mp hv3).1
    refine wpAny_mono (G.goes i s (fun v s2 => ∃ x H', Inv X pins σ H' s2 ∧ RelV x v ∧ (Itz3 X.K a b c).yld i H x H' ∧ (IsZip s2.heap z TI TO .none ∧ IsTupOf3 s2.heap TI (.ref i1) (.ref i2) (.ref i3) ∧ (∃ x y u, IsTupOf3 s2.heap TO x y u) ∧ s2.heap.IsTupleIter i1 a (i + 1) ∧ s2.heap.IsTupleIter i2 b (i + 1) ∧ s2.heap.IsTupleIter i3 c (i + 1)) ∧ ∀ b ∈ [z, TI, TO, i1, i2, i3], H' b = none) E ?_ ⟨hz, hTI, hTO, ⟨h1, p⟩, ⟨h2, p2⟩, ⟨h3, p3⟩⟩ ?_) (fun r s1 q => q) fun _ _ e => e
    · show i < min (min its.toArray.size its2.toArray.size) its3.toArray.size
      rw [List.size_toArray, List.size_toArray, List.size_toArray]
      omega
    · intro v h' tk Y st' kp htk
      obtain ⟨T, w1, w2, w3, rfl, hT, q1, q2, q3, hTt⟩ := Y
      obtain ⟨hz', hTI', hTO', ⟨h1', _⟩, ⟨h2', _⟩, ⟨h3', _⟩⟩ := st'
      have e1 : v1 = w1 := by
        have q : its[i]? = some w1 := by simpa using q1
        rw [hv1] at q
        exact Option.some.inj q
      have e2 : v2 = w2 := by
        have q : its2[i]? = some w2 := by simpa using q2
        rw [hv2] at q
        exact Option.some.inj q
      have e3 : v3 = w3 := by
        have q : its3[i]? = some w3 := by simpa using q3
        rw [hv3] at q
        exact Option.some.inj q
      subst e1 e2 e3
      have new : ObjOk X.prog X.w (upd H T (.tup [x, y, u])) h' T (.tup [x, y, u]) := by
        obtain ⟨o, ho, hc', n, hd⟩ := hTt
        exact ⟨by show 3 ≤ sizeLine; decide, [v1, v2, v3], .cons r1 (.cons r2 (.cons r3 .nil)), ⟨o, ho, hc', n, hd⟩⟩
      have I1 : Inv X pins σ (upd H T (.tup [x, y, u])) { s with heap := h', toks := tk } :=
        I.turnedNew (t' := tk) (ch := [z, TO, i1, i2, i3]) kp (fun b hb => hf b (by
          have e' : b = z ∨ b = TO ∨ b = i1 ∨ b = i2 ∨ b = i3 := by simpa using hb
          rcases e' with q | q | q | q | q <;> simp [q])) hT new
      refine ⟨.ref T, _, I1, rfl, ⟨T, x, y, u, rfl, I.hok.fresh hT, rfl, fun l hl => by rw [I.tuple_inj hl hqx]; exact hx, fun l hl => by rw [I.tuple_inj hl hqy]; exact hy, fun l hl => by rw [I.tuple_inj hl hqz]; exact hu⟩, ⟨hz', hTI', hTO', h1', h2', h3'⟩, fun d hd => ?_⟩
      have hlt : d < s.heap.objs.size := by
        have e' : d = z ∨ d = TI ∨ d = TO ∨ d = i1 ∨ d = i2 ∨ d = i3 := by simpa using hd
        rcases e' with q | q | q | q | q | q
        · rw [q]; exact Heap.lt_size hz
        · rw [q]; exact Heap.lt_size hTI
        · rw [q]; obtain ⟨_, _, _, e⟩ := hTO; exact Heap.lt_size e
        · rw [q]; obtain ⟨_, e, _⟩ := h1; exact Heap.lt_size e
        · rw [q]; obtain ⟨_, e, _⟩ := h2; exact Heap.lt_size e
        · rw [q]; obtain ⟨_, e, _⟩ := h3; exact Heap.lt_size e
      rw [upd_ne (Nat.ne_of_lt (Nat.lt_of_lt_of_le hlt hT))]
      exact (hf d hd).1
  done := by
    intro X hP hw hK hc i pins s σ H E I hf st hg
    subst hP hw hK
    obtain ⟨hz, hTI, hTO, h1, h2, h3⟩ := st
    obtain ⟨xs, ys, zs, hqx, hqy, hqz, l1, l2, l3⟩ := hg
    obtain ⟨its, rv, p, _⟩ := I.tuple hqx
    obtain ⟨its2, rv2, p2, _⟩ := I.tuple hqy
    obtain ⟨its3, rv3, p3, _⟩ := I.tuple hqz
    have hh : X.A.in1.handled = none := I.ok.hd hc
    have G := GoesN.zip3 (prog := X.prog) (w := X.w) (A := X.A) (elts := elts) (x1 := kk) (pos := tpos) S (Draws.tuple hh i1 a h1n its.toArray) (Draws.tuple hh i2 b h2n its2.toArray) (Draws.tuple hh i3 c h3n its3.toArray)
    have e1 := rv.length
    have e2 := rv2.length
    have e3 := rv3.length
    have hn : min (min its.toArray.size its2.toArray.size) its3.toArray.size = i := by
      rw [List.size_toArray, List.size_toArray, List.size_toArray]
      omega
    refine wpAny_mono (G.stops s (fun s1 => Inv X pins σ H s1) E ?_ ?_) (fun r s1 q => q) fun _ _ e => e
    · rw [hn]
      exact ⟨hz, hTI, hTO, ⟨h1, p⟩, ⟨h2, p2⟩, ⟨h3, p3⟩⟩
    · intro h' tk kp htk
      exact I.turnedL (t' := tk) (ch := [z, TO, i1, i2, i3]) kp (fun b hb => hf b (by
          have e' : b = z ∨ b = TO ∨ b = i1 ∨ b = i2 ∨ b = i3 := by simpa using hb
          rcases e' with q | q | q | q | q <;> simp [q]))
  self := fun A i s Q E st h => wpAny_pyIter_zip st.1 h
def iZip3 (K : PySem.W.Frag) (ta : TA) : TI := fun σ H R => ta σ H fun vs H1 => ∃ a b c xs ys zs, vs = [.ref a, .ref b, .ref c] ∧ SqT K H1 a xs ∧ SqT K H1 b ys ∧ SqT K H1 c zs ∧ R (Itz3 K a b c) H1
theorem pi_zip3 {X : Cx} {e e2 e3 : Expr} {ta : TA} {p pos tpos : Pos} {elts : List Expr} {kk : Nat} (hg : Gl X "zip") (hm : X.mg "zip" = none) (ha : PA X [e, e2, e3] ta)
    (hs : starEach [e, e2, e3] X.env = (false, eval e X.env) :: starEach [e2, e3] X.env := by rfl) (hpl : (backTo pos (starEach [e2, e3] X.env)).any (·.1) = false := by rfl) :
    PI X (.Tuple elts kk tpos) (.Call (.Name "zip" p) [e, e2, e3] [] pos) (iZip3 X.K ta) := by
  refine ⟨fun pins s σ H R I h => ?_⟩
  refine Call_ (ld_blt I hg hm PyProof.Rows.boot_zip (PyProof.Rows.callWith_type1 (thn (ha.run pos pins s σ H _ I h) fun us s1 ⟨vs, H1, I1, r1, q1⟩ => ?_) hs hpl))
  obtain ⟨a, b, c, xs, ys, zs, ex, hqx, hqy, hqz, q⟩ := q1
  subst ex
  cases r1 with
  | cons r rr =>
    cases rr with
    | cons r' rr =>
      cases rr with
      | cons r'' rr =>
        cases rr
        cases r
        cases r'
        cases r''
        obtain ⟨its, rv, p1, _⟩ := I1.tuple hqx
        obtain ⟨its2, rv2, p2, _⟩ := I1.tuple hqy
        obtain ⟨its3, rv3, p3, _⟩ := I1.tuple hqz
        obtain ⟨o1, ho1, _⟩ := id p1
        obtain ⟨o2, ho2, _⟩ := id p2
        obtain ⟨o3, ho3, _⟩ := id p3
        have l1 : a < s1.heap.objs.size := Heap.lt_size ho1
        have l2 : b < s1.heap.objs.size := Heap.lt_size ho2
        have l3 : c < s1.heap.objs.size := Heap.lt_size ho3
        refine zip_begins3 (begins_tuple a its.toArray) (begins_tuple b its2.toArray) (begins_tuple c its3.toArray) p1 p2 p3 fun h' hz hTI hTO h1 h2 h3 hsz hk => wpAny_pyIter_zip hz ?_
        have I2 : Inv X pins σ H1 { s1 with heap := h' } := I1.kept (t' := s1.toks) hk
        have D := zip_sep3 (N := s1.heap.objs.size) (fp1 := [a]) (fp2 := [b]) (fp3 := [c]) (fun d hd => by rw [List.mem_singleton.mp hd]; exact l1) (fun d hd => by rw [List.mem_singleton.mp hd]; exact l2) (fun d hd => by rw [List.mem_singleton.mp hd]; exact l3)
        refine ⟨s1.heap.objs.size + 5, [s1.heap.objs.size + 5, s1.heap.objs.size + 3, s1.heap.objs.size + 4, s1.heap.objs.size, s1.heap.objs.size + 1, s1.heap.objs.size + 2], _, _, H1, rfl, I2, turn_zip3 D (Nat.ne_of_lt l1) (Nat.ne_of_lt (Nat.lt_succ_of_lt l2)) (Nat.ne_of_lt (Nat.lt_succ_of_lt (Nat.lt_succ_of_lt l3))), ⟨hz, hTI, ⟨_, _, _, hTO⟩, ⟨_, h1, rfl, rfl⟩, ⟨_, h2, rfl, rfl⟩, ⟨_, h3, rfl, rfl⟩⟩, fun d hd => ?_, q⟩
        have hle : s1.heap.objs.size ≤ d := by
          have e' : d = s1.heap.objs.size + 5 ∨ d = s1.heap.objs.size + 3 ∨ d = s1.heap.objs.size + 4 ∨ d = s1.heap.objs.size ∨ d = s1.heap.objs.size + 1 ∨ d = s1.heap.objs.size + 2 := by simpa using hd
          rcases e' with z | z | z | z | z | z
          · rw [z]; exact Nat.le_add_right _ _
          · rw [z]; exact Nat.le_add_right _ _
          · rw [z]; exact Nat.le_add_right _ _
          · rw [z]; exact Nat.le_refl _
          · rw [z]; exact Nat.le_add_right _ _
          · rw [z]; exact Nat.le_add_right _ _
        exact I1.fpOk hle (I1.hok.fresh hle)
/-- a loop over zip of three tuples of one length -/
theorem for_zip3 {K : PySem.W.Frag} {a b c : Addr} {xs ys zs : List V} {g : TG} {tb : TS} {D : Ends} {σ : L2.St} {H : Hp} (hl : xs.length = ys.length) (hl2 : xs.length = zs.length) (Pv : Nat → L2.St → Hp → Prop) (h0 : Pv 0 σ H)
    (hq : ∀ i σ H, Pv i σ H → SqT K H a xs ∧ SqT K H b ys ∧ SqT K H c zs)
    (hs : ∀ (i : Nat) (x y z : V) (T : Addr) (σ : L2.St) (H : Hp), xs[i]? = some x → ys[i]? = some y → zs[i]? = some z → Pv i σ H → H T = none → g (.ref T) σ (upd H T (.tup [x, y, z])) fun σ2 H2 => tb { D with nx := Pv (i + 1), ct := Pv (i + 1), bk := D.nx } σ2 H2) (hd : ∀ σ H, Pv xs.length σ H → D.nx σ H) :
    ∃ W : Nat → Nat → L2.St → Hp → Prop, (∃ m, W 0 m σ H) ∧ ∀ i m σ H, W i m σ H →
      ((Itz3 K a b c).stop i H ∧ D.nx σ H) ∨ ((Itz3 K a b c).go i H ∧ ∃ N : L2.St → Hp → Prop, (∀ σ' H', N σ' H' → ∃ m', m' < m ∧ W (i + 1) m' σ' H') ∧ ∀ v H', (Itz3 K a b c).yld i H v H' → g v σ H' fun σ2 H2 => tb { D with nx := N, ct := N, bk := D.nx } σ2 H2) := by
  refine ⟨fun i m σ H => m = xs.length - i ∧ i ≤ xs.length ∧ Pv i σ H, ⟨xs.length, rfl, Nat.zero_le _, h0⟩, ?_⟩
  rintro i m σ H ⟨rfl, hi, p⟩
  obtain ⟨qx, qy, qz⟩ := hq i σ H p
  by_cases hlt : i < xs.length
  · have hx : xs[i]? = some xs[i] := List.getElem?_eq_getElem hlt
    have hlt2 : i < ys.length := by omega
    have hlt3 : i < zs.length := by omega
    have hy : ys[i]? = some ys[i] := List.getElem?_eq_getElem hlt2
    have hz : zs[i]? = some zs[i] := List.getElem?_eq_getElem hlt3
    refine .inr ⟨⟨xs, ys, zs, _, _, _, qx, qy, qz, hx, hy, hz⟩, Pv (i + 1), fun σ' H' p' => ⟨xs.length - (i + 1), by omega, rfl, hlt, p'⟩, fun v H' y => ?_⟩
    obtain ⟨T, x', y', z', rfl, hT, rfl, f1, f2, f3⟩ := y
    exact hs i x' y' z' T σ H (f1 xs qx) (f2 ys qy) (f3 zs qz) p hT
  · have e : i = xs.length := by omega
    subst e
    exact .inl ⟨⟨xs, ys, zs, qx, qy, qz, rfl, hl.symm, hl2.symm⟩, hd σ H p⟩
end Ek
namespace Ek
open PySem PySem.Spec L2
/-! ### the text by places -/
def topS (i : Nat) : Stmt := PySem.Challenge.pw_echowords_k21_whole_standard_words.main.body.getD i (.Pass ⟨0, 0, 0, 0⟩)
abbrev sIsInt : Stmt := topS 5
abbrev sIsIn : Stmt := topS 6
abbrev sEcho : Stmt := topS 7
abbrev sEchoes : Stmt := topS 8
abbrev sBits : Stmt := topS 11
abbrev sPath : Stmt := topS 12
abbrev sWords : Stmt := topS 13
abbrev sCancel : Stmt := topS 16
abbrev sOuter : Stmt := topS 17
abbrev sFill : Stmt := topS 18
abbrev sPairs : Stmt := topS 19
abbrev sTaken : Stmt := topS 21
abbrev sAlike : Stmt := topS 22
abbrev sOrders : Stmt := topS 23
abbrev sStd : Stmt := topS 24
abbrev sLaw : Stmt := topS 25
/-- the built-in names that the text does not bind -/
structure Tb (mg : Str → Option Value) : Prop where
  isi : mg "isinstance" = none
  int : mg "int" = none
  bool : mg "bool" = none
  str : mg "str" = none
  tuple : mg "tuple" = none
  list : mg "list" = none
  sum : mg "sum" = none
  zip : mg "zip" = none
  len : mg "len" = none
  range : mg "range" = none
  sorted : mg "sorted" = none
  all : mg "all" = none
theorem same_new {H : Hp} {p : Addr} (h : H p = none) (o : HO) : Same H (upd H p o) := fun b u q => by rw [upd_ne (ne_of_none q h)]; exact q
theorem same_upd {H H' : Hp} (g : Same H H') {p : Addr} (h : H p = none) (o : HO) : Same H (upd H' p o) := fun b u q => by rw [upd_ne (ne_of_none q h)]; exact g b u q
theorem seqT_of {K : PySem.W.Frag} {H H' : Hp} {a : Addr} {xs : List V} (e : Same H H') (h : SqT K H a xs) : SqT K H' a xs := by
  rcases h with (h | ⟨o, h⟩) | h
  · exact .inl (.inl (e _ _ h))
  · exact .inl (.inr ⟨o, e _ _ h⟩)
  · exact .inr h

/-! ### comprehensions that make one value a turn -/
section
variable {K : PySem.W.Frag} {g : TG} {te : TE} {vs : List Nat} {σ : L2.St} {H1 : Hp} {D : Addr} {Qd : Hp → Prop}
theorem take_map_succ {i : Nat} (f : Nat → V) : (List.range (i + 1)).map f = (List.range i).map f ++ [f i] := by
  rw [List.range_succ, List.map_append]
  rfl
theorem lcm {J : It} {n : Nat} (f : Nat → V) (hn : n ≤ sizeLine) (hD : H1 D = none) (stop : ∀ H, Same H1 H → J.stop n H) (go : ∀ i H, i < n → Same H1 H → J.go i H)
    (hs : ∀ i x H H' (Qe : V → Hp → Prop), i < n → Same H1 H → J.yld i H x H' → (∀ H'', Same H H'' → Qe (f i) H'') → g x (wipe σ vs) H' fun σ2 H2 => wipe σ2 vs = wipe σ vs ∧ te σ2 H2 Qe)
    (hd : ∀ H, Same H1 H → H D = some (.lst ((List.range n).map f)) → Qd H) :
    ∃ W : Nat → Nat → Hp → Prop, (∃ m, W 0 m (upd H1 D (.lst []))) ∧ ∀ i m H, W i m H →
      (J.stop i H ∧ Qd H) ∨ (J.go i H ∧ ∃ Nx : Hp → Prop, (∀ H', Nx H' → ∃ m', m' < m ∧ W (i + 1) m' H') ∧ ∀ x H', J.yld i H x H' → g x (wipe σ vs) H' fun σ2 H2 => wipe σ2 vs = wipe σ vs ∧ tYes σ2 H2 fun b H3 =>
        if b = true then te σ2 H3 fun y H4 => ∃ acc, H4 D = some (.lst acc) ∧ acc.length < sizeLine ∧ Nx (upd H4 D (.lst (acc ++ [y]))) else Nx H3) := by
  refine ⟨fun i m H => m = n - i ∧ i ≤ n ∧ Same H1 H ∧ H D = some (.lst ((List.range i).map f)), ⟨n, rfl, Nat.zero_le _, same_new hD _, upd_same⟩, ?_⟩
  rintro i m H ⟨rfl, hi, hsm, hDl⟩
  by_cases hlt : i < n
  · refine .inr ⟨go i H hlt hsm, fun H' => Same H1 H' ∧ H' D = some (.lst ((List.range (i + 1)).map f)), fun H' p => ⟨n - (i + 1), by omega, rfl, hlt, p⟩, fun x H' y => ?_⟩
    refine hs i x H H' (fun y H4 => ∃ acc, H4 D = some (.lst acc) ∧ acc.length < sizeLine ∧ (Same H1 (upd H4 D (.lst (acc ++ [y]))) ∧ (upd H4 D (.lst (acc ++ [y]))) D = some (.lst ((List.range (i + 1)).map f)))) hlt hsm y (fun H'' h2 => ?_)
    refine ⟨_, h2 _ _ hDl, by rw [List.length_map, List.length_range]; omega, same_upd (hsm.trans h2) hD _, ?_⟩
    rw [upd_same, take_map_succ]
  · have e : i = n := by omega
    subst e
    exact .inl ⟨stop H hsm, hd H hsm hDl⟩
/-- [e for x in range(lo, lo + n)] -/
theorem lcm_range {lo : Int} {n : Nat} (f : Nat → V) (hn : n ≤ sizeLine) (hD : H1 D = none)
    (hs : ∀ i H (Qe : V → Hp → Prop), i < n → Same H1 H → (∀ H'', Same H H'' → Qe (f i) H'') → g (.int (lo + i)) (wipe σ vs) H fun σ2 H2 => wipe σ2 vs = wipe σ vs ∧ te σ2 H2 Qe)
    (hd : ∀ H, Same H1 H → H D = some (.lst ((List.range n).map f)) → Qd H) :
    ∃ W : Nat → Nat → Hp → Prop, (∃ m, W 0 m (upd H1 D (.lst []))) ∧ ∀ i m H, W i m H →
      ((Itr lo n).stop i H ∧ Qd H) ∨ ((Itr lo n).go i H ∧ ∃ Nx : Hp → Prop, (∀ H', Nx H' → ∃ m', m' < m ∧ W (i + 1) m' H') ∧ ∀ x H', (Itr lo n).yld i H x H' → g x (wipe σ vs) H' fun σ2 H2 => wipe σ2 vs = wipe σ vs ∧ tYes σ2 H2 fun b H3 =>
        if b = true then te σ2 H3 fun y H4 => ∃ acc, H4 D = some (.lst acc) ∧ acc.length < sizeLine ∧ Nx (upd H4 D (.lst (acc ++ [y]))) else Nx H3) := by
  refine lcm f hn hD (fun H _ => Nat.le_refl n) (fun i H hi _ => hi) (fun i x H H' Qe hi h1 y q => ?_) hd
  obtain ⟨rfl, rfl⟩ := y
  exact hs i H' Qe hi h1 q
/-- [e for x in xs] -/
theorem lcm_list {a : Addr} {xs : List V} (f : Nat → V) (ha : SqL K H1 a xs) (hn : xs.length ≤ sizeLine) (hD : H1 D = none)
    (hs : ∀ i x H (Qe : V → Hp → Prop), xs[i]? = some x → Same H1 H → (∀ H'', Same H H'' → Qe (f i) H'') → g x (wipe σ vs) H fun σ2 H2 => wipe σ2 vs = wipe σ vs ∧ te σ2 H2 Qe)
    (hd : ∀ H, Same H1 H → H D = some (.lst ((List.range xs.length).map f)) → Qd H) :
    ∃ W : Nat → Nat → Hp → Prop, (∃ m, W 0 m (upd H1 D (.lst []))) ∧ ∀ i m H, W i m H →
      ((Itl K a).stop i H ∧ Qd H) ∨ ((Itl K a).go i H ∧ ∃ Nx : Hp → Prop, (∀ H', Nx H' → ∃ m', m' < m ∧ W (i + 1) m' H') ∧ ∀ x H', (Itl K a).yld i H x H' → g x (wipe σ vs) H' fun σ2 H2 => wipe σ2 vs = wipe σ vs ∧ tYes σ2 H2 fun b H3 =>
        if b = true then te σ2 H3 fun y H4 => ∃ acc, H4 D = some (.lst acc) ∧ acc.length < sizeLine ∧ Nx (upd H4 D (.lst (acc ++ [y]))) else Nx H3) := by
  refine lcm f hn hD (fun H h1 => ⟨xs, h1.seq ha, Nat.le_refl _⟩) (fun i H hi h1 => ⟨xs, _, h1.seq ha, List.getElem?_eq_getElem hi⟩) (fun i x H H' Qe hi h1 y q => ?_) hd
  obtain ⟨rfl, e⟩ := y
  exact hs i x H' Qe (e xs (h1.seq ha)) h1 q
/-- [e for x, y in zip(xs, ys)], two lists of one length -/
theorem lcm_zip {a b : Addr} {xs ys : List V} (f : Nat → V) (ha : SqL K H1 a xs) (hb : SqL K H1 b ys) (hl : xs.length = ys.length) (hn : xs.length ≤ sizeLine) (hD : H1 D = none)
    (hs : ∀ i x y T H (Qe : V → Hp → Prop), xs[i]? = some x → ys[i]? = some y → Same H1 H → H T = none → (∀ H'', Same H H'' → Qe (f i) H'') → g (.ref T) (wipe σ vs) (upd H T (.tup [x, y])) fun σ2 H2 => wipe σ2 vs = wipe σ vs ∧ te σ2 H2 Qe)
    (hd : ∀ H, Same H1 H → H D = some (.lst ((List.range xs.length).map f)) → Qd H) :
    ∃ W : Nat → Nat → Hp → Prop, (∃ m, W 0 m (upd H1 D (.lst []))) ∧ ∀ i m H, W i m H →
      ((Itz K a b).stop i H ∧ Qd H) ∨ ((Itz K a b).go i H ∧ ∃ Nx : Hp → Prop, (∀ H', Nx H' → ∃ m', m' < m ∧ W (i + 1) m' H') ∧ ∀ x H', (Itz K a b).yld i H x H' → g x (wipe σ vs) H' fun σ2 H2 => wipe σ2 vs = wipe σ vs ∧ tYes σ2 H2 fun b H3 =>
        if b = true then te σ2 H3 fun y H4 => ∃ acc, H4 D = some (.lst acc) ∧ acc.length < sizeLine ∧ Nx (upd H4 D (.lst (acc ++ [y]))) else Nx H3) := by
  refine lcm f hn hD (fun H h1 => ⟨xs, ys, h1.seq ha, h1.seq hb, .inl (Nat.le_refl _)⟩) (fun i H hi h1 => ⟨xs, ys, _, _, h1.seq ha, h1.seq hb, List.getElem?_eq_getElem hi, List.getElem?_eq_getElem (hl ▸ hi)⟩) (fun i x H H' Qe hi h1 y q => ?_) hd
  obtain ⟨T, x', y', rfl, hT, rfl, e1, e2⟩ := y
  exact hs i x' y' T H Qe (e1 xs (h1.seq ha)) (e2 ys (h1.seq hb)) h1 hT q
/-- [e for x, y in zip(t, u)], two tuples; the shorter one ends it -/
theorem lcm_zipT {a b : Addr} {xs ys : List V} (f : Nat → V) (ha : SqT K H1 a xs) (hb : SqT K H1 b ys) (hl : ys.length ≤ xs.length) (hn : ys.length ≤ sizeLine) (hD : H1 D = none)
    (hs : ∀ i x y T H (Qe : V → Hp → Prop), xs[i]? = some x → ys[i]? = some y → Same H1 H → H T = none → (∀ H'', Same H H'' → Qe (f i) H'') → g (.ref T) (wipe σ vs) (upd H T (.tup [x, y])) fun σ2 H2 => wipe σ2 vs = wipe σ vs ∧ te σ2 H2 Qe)
    (hd : ∀ H, Same H1 H → H D = some (.lst ((List.range ys.length).map f)) → Qd H) :
    ∃ W : Nat → Nat → Hp → Prop, (∃ m, W 0 m (upd H1 D (.lst []))) ∧ ∀ i m H, W i m H →
      ((RZ.ItzT K a b).stop i H ∧ Qd H) ∨ ((RZ.ItzT K a b).go i H ∧ ∃ Nx : Hp → Prop, (∀ H', Nx H' → ∃ m', m' < m ∧ W (i + 1) m' H') ∧ ∀ x H', (RZ.ItzT K a b).yld i H x H' → g x (wipe σ vs) H' fun σ2 H2 => wipe σ2 vs = wipe σ vs ∧ tYes σ2 H2 fun b H3 =>
        if b = true then te σ2 H3 fun y H4 => ∃ acc, H4 D = some (.lst acc) ∧ acc.length < sizeLine ∧ Nx (upd H4 D (.lst (acc ++ [y]))) else Nx H3) := by
  refine lcm f hn hD (fun H h1 => ⟨xs, ys, seqT_of h1 ha, seqT_of h1 hb, .inr (Nat.le_refl _)⟩) (fun i H hi h1 => ⟨xs, ys, _, _, seqT_of h1 ha, seqT_of h1 hb, List.getElem?_eq_getElem (Nat.lt_of_lt_of_le hi hl), List.getElem?_eq_getElem hi⟩) (fun i x H H' Qe hi h1 y q => ?_) hd
  obtain ⟨T, x', y', rfl, hT, rfl, e1, e2⟩ := y
  exact hs i x' y' T H Qe (e1 xs (seqT_of h1 ha)) (e2 ys (seqT_of h1 hb)) h1 hT q
end

/-! ### is_int, is_in -/
def spIsInt : Sp := fun vs H Q _ => ∃ i : Int, vs = [.int i] ∧ Q (.bl true) H
def spIsIn : Sp := fun vs H Q _ => ∃ i lo hi : Int, vs = [.int i, .int lo, .int hi] ∧ lo ≤ i ∧ i ≤ hi ∧ Q (.bl true) H
section
variable {P : Program} {w : World} {K : PySem.W.Frag} {mg : Str → Option Value} {base : Heap} {f : Addr} {fd : FuncData}
theorem scIsInt : FnScope ["value"] ["value"] (defScope sIsInt) := ⟨rfl, rfl, rfl, by decide +kernel, rfl, by decide +kernel, by decide +kernel⟩
theorem scIsIn : FnScope ["value", "least", "most"] ["value", "least", "most"] (defScope sIsIn) := ⟨rfl, rfl, rfl, by decide +kernel, rfl, by decide +kernel, by decide +kernel⟩
theorem ok_isint (T : Tb mg) (F : Fun K "is_int" "is_int" sIsInt f fd) : FnOk P w K mg base CX0 1 f fd ["value"] spIsInt := by
  refine F.ok scIsInt (fun vs H Q E h => ?_) (fun cdv A outer s H vs Q E hr h => ?_)
  · obtain ⟨i, rfl, _⟩ := h
    rfl
  obtain ⟨i, rfl, q⟩ := h
  refine ⟨_, pss_one (ps_ret (pe_and (pe_callB call_isi (by rfl) T.isi (by decide +kernel) (pa_cons (pv 0) (pa_cons (pe_bltn (v := .ty "int") (by rfl) T.int (by decide +kernel) rfl) pa_nil)))
    (pe_one (pe_not (pe_callB call_isi (by rfl) T.isi (by decide +kernel) (pa_cons (pv 0) (pa_cons (pe_bltn (v := .ty "bool") (by rfl) T.bool (by decide +kernel) rfl) pa_nil))))))), ?_⟩
  refine ⟨_, rfl, .int i, .ty "int", _, _, true, rfl, .ty "int", .base (.int i), kit_ty (by decide +kernel), true, rfl, iteT ?_⟩
  refine ⟨_, rfl, .int i, .ty "bool", _, _, false, rfl, .ty "bool", .base (.int i), kit_ty (by decide +kernel), false, rfl, ?_⟩
  exact q
theorem ok_isin {k : Nat} {g : Addr} {gd : FuncData} (T : Tb mg) (F : Fun K "is_in" "is_in" sIsIn f fd) (G : FnOk P w K mg base CX0 1 g gd ["value"] spIsInt) (bG : Binds K gd ["value"] []) (kG : PySem.W.keepIn K (.ref g) = true) (mG : mg "is_int" = some (.ref g)) :
    FnOk P w K mg base CX0 2 f fd ["value", "least", "most"] spIsIn := by
  refine F.ok scIsIn (fun vs H Q E h => ?_) (fun cdv A outer s H vs Q E hr h => ?_)
  · obtain ⟨i, lo, hi, rfl, _⟩ := h
    rfl
  obtain ⟨i, lo, hi, rfl, h1, h2, q⟩ := h
  refine ⟨_, pss_one (ps_ret (pe_and (pe_call G hr rfl mG kG bG .nil pass0 (pa_cons (pv 0) pa_nil)) (pe_one (pe_chain op_le op_le (pv 1) (pv 0) (pv 2))))), ?_⟩
  refine ⟨_, rfl, i, rfl, true, rfl, iteT ?_⟩
  refine ⟨_, rfl, _, rfl, _, _, rfl, rfl, _, rfl, ?_⟩
  rw [decide_eq_true h1]
  refine iteT ⟨_, rfl, _, _, rfl, rfl, ?_⟩
  have e : Q (.bl (decide (i ≤ hi))) H := by
    rw [decide_eq_true h2]
    exact q
  exact e
end
end Ek
namespace Ek
open PySem PySem.Spec L2
/-! ### the mathematics: bits and the words of paths -/
/-- the bit of n at place a, the greatest of m first -/
def bitN (m n a : Nat) : Nat := n / 2 ^ (m - 1 - a) % 2
def bitsN (m n : Nat) : List Nat := (List.range m).map (bitN m n)
def ivs (l : List Nat) : List V := l.map fun (k : Nat) => V.int (k : Int)
def sumN (n : Nat) (f : Nat → Nat) : Nat := ((List.range n).map f).sum
def toldN (o ls : List Nat) (m n c : Nat) : Nat := c + sumN m (fun i => ls.getD i 0 * bitN m n i) + sumN (m - 1) (fun a => bitN m n (o.getD a 0) * bitN m n (o.getD (a + 1) 0))
def sgn (t : Nat) : Int := if t % 2 = 1 then -1 else 1
def wordN (o ls : List Nat) (m c : Nat) : List Int := (List.range (2 ^ m)).map fun n => sgn (toldN o ls m n c)
theorem bitN_le (m n a : Nat) : bitN m n a ≤ 1 := by unfold bitN; omega
theorem bitsN_len (m n : Nat) : (bitsN m n).length = m := by unfold bitsN; rw [List.length_map, List.length_range]
theorem ivs_len (l : List Nat) : (ivs l).length = l.length := List.length_map _
theorem ivs_at {l : List Nat} {i : Nat} (h : i < l.length) : (ivs l)[i]? = some (V.int ((l.getD i 0 : Nat) : Int)) := by
  unfold ivs
  rw [List.getElem?_map, List.getElem?_eq_getElem h]
  simp [List.getD, h]
theorem bits_at {m n i : Nat} (h : i < m) : (bitsN m n).getD i 0 = bitN m n i := by
  unfold bitsN
  simp [List.getD, h]
theorem bit_val {m n i : Nat} (h : i < m) : Builtin.bitAnd ((n : Int) / 2 ^ ((m : Int) - 1 - (0 + (i : Int))).toNat) 1 = ((bitN m n i : Nat) : Int) := by
  have e : ((m : Int) - 1 - (0 + (i : Int))).toNat = m - 1 - i := by omega
  rw [PyProof.Rows.bitAnd_m1, e]
  unfold bitN
  push_cast
  rfl
theorem shl_one (m : Nat) : (1 : Int) * 2 ^ ((m : Int)).toNat = ((2 ^ m : Nat) : Int) := by
  rw [Int.toNat_natCast, Int.one_mul]
  push_cast
  rfl
theorem pow4 {m : Nat} (h : m ≤ 5) : 2 ^ m ≤ 32 := Nat.pow_le_pow_right (by decide) h
theorem sum_cast (f : Nat → Nat) : ∀ l : List Nat, (l.map fun i => ((f i : Nat) : Int)).sum = (((l.map f).sum : Nat) : Int)
  | [] => rfl
  | a :: l => by
    rw [List.map_cons, List.map_cons, List.sum_cons, List.sum_cons, sum_cast f l]
    push_cast
    rfl

/-! ### bits_of -/
def spBits : Sp := fun vs H Q _ => ∃ n m : Nat, vs = [.int n, .int m] ∧ m ≤ 5 ∧ ∀ p H', Same H H' → H p = none → H' p = some (.lst (ivs (bitsN m n))) → Q (.ref p) H'
section
variable {P : Program} {w : World} {K : PySem.W.Frag} {mg : Str → Option Value} {base : Heap} {f : Addr} {fd : FuncData}
theorem scBits : FnScope ["number", "many", "at"] ["number", "many"] (defScope sBits) := ⟨rfl, rfl, rfl, by decide +kernel, rfl, by decide +kernel, by decide +kernel⟩
theorem ok_bits (T : Tb mg) (F : Fun K "bits_of" "bits_of" sBits f fd) : FnOk P w K mg base CX0 1 f fd ["number", "many"] spBits := by
  refine F.ok scBits (fun vs H Q E h => ?_) (fun cdv A outer s H vs Q E hr h => ?_)
  · obtain ⟨n, m, rfl, _⟩ := h
    rfl
  obtain ⟨n, m, rfl, hm, q⟩ := h
  refine ⟨_, pss_one (ps_ret (pe_lc (own := [("at", 2)]) (g := gName 2) (tt := tYes) (by rfl) scBits.nd (pi_range1 (by rfl) T.range (pa_cons (pv 1) pa_nil)) (blkOk_by (own := [("at", 2)]) (N := ["number", "many", "at"]) (sc := defScope sBits) (by decide +kernel))
    (fun _ _ _ _ _ => pg_name (i := 2) scBits.nd rfl (Or.inl rfl)) (fun _ _ _ _ _ => pts_nil)
    (fun _ _ _ _ _ => pe_op op_and (pe_op op_shr (pv 0) (pe_op op_sub (pe_op op_sub (pv 1) pe_int) (pv 2))) pe_int))), ?_⟩
  refine ⟨_, rfl, _, rfl, by omega, by omega, fun D hD => ?_⟩
  refine lcm_range (n := m) (fun i => V.int ((bitN m n i : Nat) : Int)) (by rw [sizeLine_eq]; omega) hD (fun i H2 Qe hi h1 qe => ?_) (fun H2 h1 hl => ?_)
  · refine ⟨rfl, ?_⟩
    refine ⟨_, rfl, _, rfl, _, _, rfl, rfl, _, rfl, _, _, rfl, rfl, _, _, rfl, rfl, by omega, _, _, rfl, rfl, ?_⟩
    dsimp only
    rw [bit_val hi]
    exact qe _ (Same.refl _)
  · refine q D H2 h1 hD ?_
    rw [hl]
    unfold ivs bitsN
    rw [List.map_map]
    rfl

/-! ### path_word -/
def spPath (K : PySem.W.Frag) : Sp := fun vs H Q _ => ∃ (ao al : Addr) (o ls : List Nat) (m c : Nat), vs = [.ref ao, .ref al, .int c] ∧ SqT K H ao (ivs o) ∧ SqL K H al (ivs ls) ∧ o.length = m ∧ ls.length = m ∧ 1 ≤ m ∧ m ≤ 5 ∧ (∀ x ∈ ls, x ≤ 1) ∧ (∀ x ∈ o, x < m) ∧
  ∀ p H', Same H H' → H p = none → H' p = some (.tup ((wordN o ls m c).map V.int)) → Q (.ref p) H'
abbrev nPath : List Str := ["order", "lines", "constant", "many", "found", "number", "bits", "told", "line", "bit", "at"]
theorem scPath : FnScope nPath ["order", "lines", "constant"] (defScope sPath) := ⟨rfl, rfl, rfl, by decide +kernel, rfl, by decide +kernel, by decide +kernel⟩
theorem getD_le {l : List Nat} {b : Nat} (h : ∀ x ∈ l, x ≤ b) (i : Nat) : l.getD i 0 ≤ b := by
  by_cases hi : i < l.length
  · have e : l.getD i 0 = l[i] := by simp [List.getD, hi]
    rw [e]
    exact h _ (List.getElem_mem hi)
  · have e : l.getD i 0 = 0 := by simp [List.getD, Nat.le_of_not_lt hi]
    rw [e]
    exact Nat.zero_le _
theorem getD_lt {l : List Nat} {b i : Nat} (h : ∀ x ∈ l, x < b) (hi : i < l.length) : l.getD i 0 < b := by
  have e : l.getD i 0 = l[i] := by simp [List.getD, hi]
  rw [e]
  exact h _ (List.getElem_mem hi)
theorem ok_path {g : Addr} {gd : FuncData} (T : Tb mg) (F : Fun K "path_word" "path_word" sPath f fd) (G : FnOk P w K mg base CX0 1 g gd ["number", "many"] spBits) (bG : Binds K gd ["number", "many"] []) (kG : PySem.W.keepIn K (.ref g) = true) (mG : mg "bits_of" = some (.ref g)) :
    FnOk P w K mg base CX0 2 f fd ["order", "lines", "constant"] (spPath K) := by
  refine F.ok scPath (fun vs H Q E h => ?_) (fun cdv A outer s H vs Q E hr h => ?_)
  · obtain ⟨ao, al, o, ls, m, c, rfl, _⟩ := h
    rfl
  obtain ⟨ao, al, o, ls, m, c, rfl, ho, hl, lo, ll, h1, h5, hls, hos, q⟩ := h
  refine ⟨_, pss_cons (ps_par (i := 3) (j := 4) (by rfl) scPath.nd rfl rfl (by decide) rfl rfl (pa_cons (pe_callB call_len_seq (by rfl) T.len PySem.boot_len (pa_cons (pv 0) pa_nil)) (pa_cons (pe_lst pa_nil) pa_nil)) (by rfl))
    (pss_cons (ps_for PassesOwn.never rfl (pi_range1 (by rfl) T.range (pa_cons (pe_op op_shl pe_int (pv 3)) pa_nil)) (pg_name (i := 5) scPath.nd rfl (Or.inl rfl))
      (pss_cons (ps_set (i := 6) scPath.nd rfl (Or.inr rfl) (pe_call G hr rfl mG kG bG .nil pass0 (pa_cons (pv 5) (pa_cons (pv 3) pa_nil))))
      (pss_cons (ps_set (i := 7) scPath.nd rfl (Or.inl rfl) (pe_op op_add (pv 2) (pe_callB (cr_sum rfl) (by rfl) T.sum (by decide +kernel) (pa_cons
        (pe_lc (own := [("line", 8), ("bit", 9)]) (g := gTup K 2 (gCons (gName 8) (gCons (gName 9) gNil))) (tt := tYes) (by rfl) scPath.nd (pi_zip (by rfl) T.zip (pa_cons (pv 1) (pa_cons (pv 6) pa_nil))) (blkOk_by (own := [("line", 8), ("bit", 9)]) (N := nPath) (sc := defScope sPath) (by decide +kernel))
          (fun _ _ _ _ _ => pg_tup rfl (pgs_cons (pg_name (i := 8) scPath.nd rfl (Or.inl rfl)) (pgs_cons (pg_name (i := 9) scPath.nd rfl (Or.inl rfl)) pgs_nil))) (fun _ _ _ _ _ => pts_nil)
          (fun _ _ _ _ _ => pe_op op_mul (pv 8) (pv 9))) pa_nil))))
      (pss_cons (ps_aug (i := 7) scPath.nd rfl (.inl rfl) (pe_callB (cr_sum rfl) (by rfl) T.sum (by decide +kernel) (pa_cons
        (pe_lc (own := [("at", 10)]) (g := gName 10) (tt := tYes) (by rfl) scPath.nd (pi_range1 (by rfl) T.range (pa_cons (pe_op op_sub (pv 3) pe_int) pa_nil)) (blkOk_by (own := [("at", 10)]) (N := nPath) (sc := defScope sPath) (by decide +kernel))
          (fun _ _ _ _ _ => pg_name (i := 10) scPath.nd rfl (Or.inl rfl)) (fun _ _ _ _ _ => pts_nil)
          (fun _ _ _ _ _ => pe_op op_mul (pe_ix (r := rIxL K) ix_list (pv 6) (pe_ix (r := rIxT K) ix_tup (pv 0) (pv 10) (fun _ _ => rfl)) (fun _ _ => rfl)) (pe_ix (r := rIxL K) ix_list (pv 6) (pe_ix (r := rIxT K) ix_tup (pv 0) (pe_op op_add (pv 10) pe_int) (fun _ _ => rfl)) (fun _ _ => rfl)))) pa_nil)) ip_add)
      (pss_one (ps_expr (pe_bm PySem.F.plainAttrs_list PySem.F.slot_list_append PySem.F.type_list_append mt_append (pv 4) (pa_cons
        (pe_ifExp (pt_cmpR op_eq (pe_op op_mod (pv 7) pe_int) pe_int (nomark _)) (pe_un un_neg pe_int) pe_int) pa_nil))))))))
    (pss_one (ps_ret (pe_callTy call_tuple_of (by rfl) T.tuple (by decide +kernel) (pa_cons (pv 4) pa_nil))))), ?_⟩
  refine ⟨_, rfl, _, _, rfl, .inr ho, by decide, fun D hD => ?_⟩
  refine ⟨_, _, rfl, ?_⟩
  have el : (ivs o).length = m := (ivs_len o).trans lo
  have el2 : (ivs ls).length = m := (ivs_len ls).trans ll
  have p5 := pow4 h5
  have z5 : (32 : Nat) ≤ sizeLine := by decide
  have nn : (0 : Int) ≤ ((2 ^ m : Nat) : Int) := Int.natCast_nonneg _
  have nl : ((2 ^ m : Nat) : Int) ≤ 32 := by exact_mod_cast p5
  rw [el]
  refine ⟨_, rfl, _, _, rfl, rfl, ⟨by omega, by omega, by decide⟩, ((2 ^ m : Nat) : Int), congrArg (fun z => [V.int z]) (shl_one m), by omega, by omega, ?_⟩
  refine for_range (n := 2 ^ m) (fun i σ H' => ∃ a b t, σ = [some (.ref ao), some (.ref al), some (.int c), some (.int m), some (.ref D), a, b, t, none, none, none] ∧ Same H H' ∧ H' D = some (.lst (((List.range i).map fun n => sgn (toldN o ls m n c)).map V.int)))
    ⟨_, _, _, rfl, same_new hD _, upd_same⟩ (fun i σ H' hi p => ?_) (fun σ H' p => ?_)
  · obtain ⟨a0, b0, t0, rfl, g1, hDl⟩ := p
    rw [show (0 : Int) + (i : Int) = (i : Int) from Int.zero_add _]
    refine ⟨_, rfl, _, rfl, i, m, rfl, h5, fun B H2 g2 nB hB => ?_⟩
    refine ⟨_, rfl, _, rfl, _, rfl, _, _, _, _, rfl, g2.seq (g1.seq hl), SqL.of hB, fun D2 hD2 => ?_⟩
    refine lcm_zip (fun j => V.int ((ls.getD j 0 * bitN m i j : Nat) : Int)) (g2.seq (g1.seq hl)) (SqL.of hB) (by rw [el2, ivs_len, bitsN_len]) (by omega) hD2 (fun j x y T H3 Qe hx hy g3 hT qe => ?_) (fun H3 g3 hl3 => ?_)
    · have hj : j < m := by
        have := (List.getElem?_eq_some_iff.mp hx).1
        omega
      have ex : x = V.int ((ls.getD j 0 : Nat) : Int) := by
        rw [ivs_at (by omega)] at hx
        exact (Option.some.inj hx).symm
      have ey : y = V.int ((bitN m i j : Nat) : Int) := by
        rw [ivs_at (by rw [bitsN_len]; exact hj), bits_at hj] at hy
        exact (Option.some.inj hy).symm
      subst ex ey
      refine ⟨T, _, rfl, SqT.of upd_same, rfl, _, _, rfl, _, _, rfl, rfl, rfl, ?_⟩
      have b1 := getD_le hls j
      refine ⟨_, rfl, _, rfl, _, _, rfl, rfl, .inl ⟨by omega, by omega⟩, ?_⟩
      dsimp only
      rw [← Int.natCast_mul]
      exact qe _ (same_new hT _)
    refine ⟨D2, (List.range m).map fun j => ((ls.getD j 0 * bitN m i j : Nat) : Int), rfl, SqL.of (by rw [hl3, el2, List.map_map]; rfl), _, _, rfl, rfl, ?_⟩
    rw [sum_cast]
    refine ⟨_, rfl, _, rfl, _, _, rfl, rfl, ((m - 1 : Nat) : Int), congrArg (fun z => [V.int z]) (show ((m : Int) - 1) = ((m - 1 : Nat) : Int) by omega), by omega, by omega, fun D3 hD3 => ?_⟩
    have hB3 := g3 _ _ hB
    have ho3 := seqT_of g3 (seqT_of g2 (seqT_of g1 ho))
    refine lcm_range (n := m - 1) (fun a => V.int ((bitN m i (o.getD a 0) * bitN m i (o.getD (a + 1) 0) : Nat) : Int)) (by omega) hD3 (fun j H4 Qe hj g4 qe => ?_) (fun H4 g4 hl4 => ?_)
    · refine ⟨rfl, ?_⟩
      have x1 := getD_lt (i := j) hos (by omega)
      have x2 := getD_lt (i := j + 1) hos (by omega)
      refine ⟨_, rfl, _, rfl, _, rfl, ao, ivs o, _, _, rfl, rfl, seqT_of g4 ho3, at_of (Int.zero_add _) (ivs_at (by omega)), B, _, _, _, rfl, rfl, SqL.of (g4 _ _ hB3), atI_nat (ivs_at (by rw [bitsN_len]; exact x1)),
        _, rfl, _, rfl, _, rfl, _, _, rfl, rfl, ao, ivs o, _, _, rfl, rfl, seqT_of g4 ho3, at_of (j := j + 1) (by omega) (ivs_at (by omega)), B, _, _, _, rfl, rfl, SqL.of (g4 _ _ hB3), atI_nat (ivs_at (by rw [bitsN_len]; exact x2)), _, _, rfl, rfl, ?_⟩
      rw [bits_at x1, bits_at x2]
      have b1 := bitN_le m i (o.getD j 0)
      refine ⟨.inl ⟨by omega, by omega⟩, ?_⟩
      dsimp only
      rw [← Int.natCast_mul]
      exact qe _ (Same.refl _)
    refine ⟨D3, (List.range (m - 1)).map fun a => ((bitN m i (o.getD a 0) * bitN m i (o.getD (a + 1) 0) : Nat) : Int), rfl, SqL.of (by rw [hl4, List.map_map]; rfl), _, _, rfl, rfl, ?_⟩
    rw [sum_cast]
    have et : ((c : Int) + (((List.range m).map fun j => ls.getD j 0 * bitN m i j).sum : Nat) + (((List.range (m - 1)).map fun a => bitN m i (o.getD a 0) * bitN m i (o.getD (a + 1) 0)).sum : Nat)) = ((toldN o ls m i c : Nat) : Int) := by
      unfold toldN sumN
      push_cast
      rfl
    dsimp only
    rw [et]
    have gA := g1.trans (g2.trans (g3.trans g4))
    have hD4 := g4 _ _ (g3 _ _ (g2 _ _ hDl))
    have len : (((List.range i).map fun n => sgn (toldN o ls m n c)).map V.int).length < sizeLine := by
      rw [List.length_map, List.length_map, List.length_range]
      omega
    have fin : ∀ z : Int, z = sgn (toldN o ls m i c) → Same H (upd H4 D (.lst ((((List.range i).map fun n => sgn (toldN o ls m n c)).map V.int) ++ [V.int z]))) ∧
        (upd H4 D (.lst ((((List.range i).map fun n => sgn (toldN o ls m n c)).map V.int) ++ [V.int z]))) D = some (.lst (((List.range (i + 1)).map fun n => sgn (toldN o ls m n c)).map V.int)) := fun z e => by
      refine ⟨same_upd gA hD _, ?_⟩
      rw [upd_same, e, List.range_succ, List.map_append, List.map_append]
      rfl
    refine ⟨_, rfl, .inl ⟨rfl, _, SqL.of hD4⟩, _, rfl, _, _, rfl, rfl, (show (0 : Int) < 2 by decide), rfl, _, rfl, ?_⟩
    by_cases ht : toldN o ls m i c % 2 = 1
    · have e1 : decide (V.int (((toldN o ls m i c : Nat) : Int) % 2) = V.int 1) = true := decide_eq_true (by rw [show (((toldN o ls m i c : Nat) : Int) % 2) = 1 by omega])
      rw [e1]
      refine iteT ⟨_, rfl, D, _, _, rfl, rfl, hD4, len, _, _, _, rfl, fin _ ?_⟩
      unfold sgn
      rw [if_pos ht]
    · have e1 : decide (V.int (((toldN o ls m i c : Nat) : Int) % 2) = V.int 1) = false := decide_eq_false (fun e => ht (by have := V.int.inj e; omega))
      rw [e1]
      refine iteF ⟨D, _, _, rfl, rfl, hD4, len, _, _, _, rfl, fin _ ?_⟩
      unfold sgn
      rw [if_neg ht]
  · obtain ⟨a0, b0, t0, rfl, g1, hDl⟩ := p
    refine ⟨_, rfl, D, _, rfl, .inl ⟨SqL.of hDl, fun p hp => ?_⟩⟩
    refine q p _ (same_upd g1 (g1.free hp) _) (g1.free hp) ?_
    rw [upd_same]
    rfl
end
end Ek
namespace Ek
open PySem PySem.Spec L2
/-! ### pairs of lists, tuples of small numbers on the heap -/
theorem pa_get {α β : Type} {R : α → β → Prop} : ∀ {xs : List α} {ys : List β} {i : Nat} {x : α}, Paired R xs ys → xs[i]? = some x → ∃ y, ys[i]? = some y ∧ R x y
  | _, _, _, _, .nil, e => by simp at e
  | _, _, 0, _, .cons r _, e => by simp at e; subst e; exact ⟨_, rfl, r⟩
  | _, _, i + 1, x, .cons _ t, e => by
    obtain ⟨u, h1, h2⟩ := pa_get (i := i) (x := x) t (by simpa using e)
    exact ⟨u, by simpa using h1, h2⟩
theorem pa_snoc {α β : Type} {R : α → β → Prop} {x : α} {y : β} (h : R x y) : ∀ {xs : List α} {ys : List β}, Paired R xs ys → Paired R (xs ++ [x]) (ys ++ [y])
  | _, _, .nil => .cons h .nil
  | _, _, .cons r t => .cons r (pa_snoc h t)
theorem pa_imp {α β : Type} {R S : α → β → Prop} (h : ∀ x y, R x y → S x y) : ∀ {xs : List α} {ys : List β}, Paired R xs ys → Paired S xs ys
  | _, _, .nil => .nil
  | _, _, .cons r t => .cons (h _ _ r) (pa_imp h t)
theorem pa_len {α β : Type} {R : α → β → Prop} : ∀ {xs : List α} {ys : List β}, Paired R xs ys → xs.length = ys.length
  | _, _, .nil => rfl
  | _, _, .cons _ t => by rw [List.length_cons, List.length_cons, pa_len t]
/-- tuples of small numbers -/
def Tn (H : Hp) (ts : List Addr) (oss : List (List Nat)) : Prop := Paired (fun (t : Addr) (o : List Nat) => H t = some (.tup (ivs o))) ts oss
theorem Tn.same {H H' : Hp} {ts : List Addr} {oss : List (List Nat)} (h : Tn H ts oss) (g : Same H H') : Tn H' ts oss := pa_imp (fun _ _ q => g _ _ q) h

/-! ### loops in general -/
theorem lcG {J : It} {n : Nat} {Bd : (Hp → Prop) → V → Hp → Prop} {H0 : Hp} {Qd : Hp → Prop} (Pv : Nat → Hp → Prop) (h0 : Pv 0 H0) (go : ∀ i H, i < n → Pv i H → J.go i H) (stop : ∀ H, Pv n H → J.stop n H)
    (hs : ∀ i x H H', i < n → Pv i H → J.yld i H x H' → Bd (Pv (i + 1)) x H') (hd : ∀ H, Pv n H → Qd H) :
    ∃ W : Nat → Nat → Hp → Prop, (∃ m, W 0 m H0) ∧ ∀ i m H, W i m H → (J.stop i H ∧ Qd H) ∨ (J.go i H ∧ ∃ Nx : Hp → Prop, (∀ H', Nx H' → ∃ m', m' < m ∧ W (i + 1) m' H') ∧ ∀ x H', J.yld i H x H' → Bd Nx x H') := by
  refine ⟨fun i m H => m = n - i ∧ i ≤ n ∧ Pv i H, ⟨n, rfl, Nat.zero_le _, h0⟩, ?_⟩
  rintro i m H ⟨rfl, hi, p⟩
  by_cases hlt : i < n
  · exact .inr ⟨go i H hlt p, Pv (i + 1), fun H' p' => ⟨n - (i + 1), by omega, rfl, hlt, p'⟩, fun x H' y => hs i x H H' hlt p y⟩
  · have e : i = n := by omega
    subst e
    exact .inl ⟨stop H p, hd H p⟩

theorem tyesT {A B : Hp → Prop} {σ : L2.St} {H : Hp} (h : A H) : tYes σ H fun b H3 => if b = true then A H3 else B H3 := by
  show if true = true then A H else B H
  rw [if_pos rfl]
  exact h
/-! ### slices and sums of tuples, whatever they are -/
section
variable {K : PySem.W.Frag} {H : Hp}
theorem slA_of {a : Addr} {xs : List V} {lo hi : Option Int} {Q : VK} (ha : H a = some (.tup xs)) (q : ∀ a' H', Same H H' → H' a' = some (.tup (cutV xs lo hi)) → Q (.ref a') H') : rSlA K (.ref a) lo hi H Q := by
  refine ⟨a, xs, rfl, SqT.of ha, fun hw => q a H (Same.refl _) ?_, fun _ p hp => q p _ (same_new hp _) upd_same⟩
  have e : cutV xs lo hi = xs := by
    unfold cutV
    rw [hw.1, hw.2]
    simp
  rw [e]
  exact ha
theorem catA_of {a b : Addr} {xs ys : List V} {Q : VK} (ha : H a = some (.tup xs)) (hb : H b = some (.tup ys)) (hz : xs.length + ys.length ≤ sizeLine) (q : ∀ a' H', Same H H' → H' a' = some (.tup (xs ++ ys)) → Q (.ref a') H') :
    rCatA K (.ref a) (.ref b) H Q := by
  refine ⟨a, b, xs, ys, rfl, rfl, SqT.of ha, SqT.of hb, hz, fun e => q b H (Same.refl _) ?_, fun _ e => q a H (Same.refl _) ?_, fun _ _ p hp => q p _ (same_new hp _) upd_same⟩
  · rw [e]; exact hb
  · rw [e, List.append_nil]; exact ha
theorem cut_take {xs : List V} {p : Nat} (h : p ≤ xs.length) : cutV xs none (some (p : Int)) = xs.take p := by
  unfold cutV
  rw [HT.sIx_none, HT.sIx_nat, Nat.min_eq_left h]
  simp
theorem cut_drop {xs : List V} {p : Nat} (h : p ≤ xs.length) : cutV xs (some (p : Int)) none = xs.drop p := by
  unfold cutV
  rw [HT.sIx_none, HT.sIx_nat, Nat.min_eq_left h]
  exact List.take_of_length_le (by rw [List.length_drop]; omega)
end
def rLenQ (K : PySem.W.Frag) : List V → Hp → VK → Prop := fun xs H Q => ∃ p ys, xs = [.ref p] ∧ (SqL K H p ys ∨ SqT K H p ys) ∧ Q (.int ys.length) H

/-! ### the mathematics: orders, words by orders -/
def insN (a : Nat) (t : List Nat) : List (List Nat) := (List.range (t.length + 1)).map fun p => t.take p ++ [a] ++ t.drop p
def ordersN : Nat → List (List Nat)
  | 0 => [[]]
  | k + 1 => (ordersN k).flatMap (insN k)
def putW (ks : List (List Int)) (k : List Int) : List (List Int) := if k ∈ ks then ks else ks ++ [k]
def famA (m : Nat) (o : List Nat) (n : Nat) : List (List Int) := [wordN o (bitsN m n) m 0, wordN o (bitsN m n) m 1]
def famsA (m : Nat) (o : List Nat) : List (List Int) := (List.range (2 ^ m)).flatMap (famA m o)
def keysA (m : Nat) : List (List Int) := ((ordersN m).flatMap (famsA m)).foldl putW []
theorem ord_ok : ∀ {m : Nat}, m ≤ 4 → (∀ o ∈ ordersN m, o.length = m ∧ ∀ x ∈ o, x < m) ∧ (ordersN m).length ≤ 24
  | 0, _ => by decide
  | 1, _ => by decide
  | 2, _ => by decide
  | 3, _ => by decide
  | 4, _ => by decide
  | n + 5, h => by omega
theorem take_fm {α β : Type} {xs : List α} {i : Nat} {x : α} (F : α → List β) (h : xs[i]? = some x) : (xs.take (i + 1)).flatMap F = (xs.take i).flatMap F ++ F x := by
  rw [List.take_add_one, h, List.flatMap_append]
  simp
theorem range_fm {β : Type} (F : Nat → List β) (i : Nat) : (List.range (i + 1)).flatMap F = (List.range i).flatMap F ++ F i := by
  rw [List.range_succ, List.flatMap_append]
  simp
def wkey (w : List Int) : List L2.Key := w.map Sum.inl
theorem wkey_inj {a b : List Int} (h : wkey a = wkey b) : a = b := by
  have q := congrArg (List.map fun k : L2.Key => match k with | .inl i => i | .inr _ => 0) h
  unfold wkey at q
  rw [List.map_map, List.map_map] at q
  have e : ∀ l : List Int, l.map ((fun k : L2.Key => match k with | .inl i => i | .inr _ => 0) ∘ Sum.inl) = l := fun l => (List.map_congr_left fun _ _ => rfl).trans (List.map_id l)
  rw [e, e] at q
  exact q
theorem wkey_kV (w : List Int) : (wkey w).map kV = w.map V.int := by unfold wkey; rw [List.map_map]; rfl
theorem keys_putK {kvs : List (List L2.Key × V)} {ks : List (List Int)} {k : List Int} {v : V} (h : kvs.map (·.1) = ks.map wkey) : (putK kvs (wkey k) v).map (·.1) = (putW ks k).map wkey := by
  have hm : (kvs.any fun kv => decide (kv.1 = wkey k)) = decide (k ∈ ks) := by
    have e1 : (kvs.any fun kv => decide (kv.1 = wkey k)) = ((kvs.map (·.1)).any fun x => decide (x = wkey k)) := by rw [List.any_map]; rfl
    rw [e1, h, List.any_map]
    by_cases c : k ∈ ks
    · rw [decide_eq_true c]
      exact List.any_eq_true.mpr ⟨k, c, by simp⟩
    · rw [decide_eq_false c]
      refine Bool.eq_false_iff.mpr fun q => c ?_
      obtain ⟨x, hx, e⟩ := List.any_eq_true.mp q
      have e' : wkey x = wkey k := by simpa using e
      rw [← wkey_inj e']
      exact hx
  unfold putK putW
  by_cases c : k ∈ ks
  · rw [hm, decide_eq_true c, if_pos rfl, if_pos c, ← h, List.map_map]
    refine List.map_congr_left fun kv _ => ?_
    show (if kv.1 = wkey k then (kv.1, v) else kv).1 = kv.1
    split <;> rfl
  · rw [hm, decide_eq_false c, if_neg (by simp), if_neg c, List.map_append, List.map_append, h]
    rfl
theorem fold2 (l : List (List Int)) (a b : List Int) : (l ++ [a, b]).foldl putW [] = putW (putW (l.foldl putW []) a) b := by rw [List.foldl_append]; rfl
theorem putK_le (c : List (List L2.Key × V)) (k : List L2.Key) (x : V) : (putK c k x).length ≤ c.length + 1 := by
  unfold putK
  split <;> simp

/-! ### standard_words -/
def spStdWords : Sp := fun vs H Q _ => ∃ m : Nat, vs = [.int m] ∧ 1 ≤ m ∧ m ≤ 4 ∧
  ∀ (ts : List Addr) (mss : List (List Int)) (p : Addr) (H' : Hp), Same H H' → mss.Perm (keysA m) → mss.Pairwise (fun x y => HT.lexLt y x = false) → Paired (fun t ms => H' t = some (.tup (ms.map V.int))) ts mss → H' p = some (.lst (ts.map V.ref)) → Q (.ref p) H'
section
variable {P : Program} {w : World} {K : PySem.W.Frag} {mg : Str → Option Value} {base : Heap} {f : Addr} {fd : FuncData}
abbrev nWords : List Str := ["many", "orders", "at", "found", "order", "number", "told", "place"]
theorem scWords : FnScope nWords ["many"] (defScope sWords) := ⟨rfl, rfl, rfl, by decide +kernel, rfl, by decide +kernel, by decide +kernel⟩
theorem ivs_take (t : List Nat) (p : Nat) : (ivs t).take p = ivs (t.take p) := by unfold ivs; rw [List.map_take]
theorem ivs_drop (t : List Nat) (p : Nat) : (ivs t).drop p = ivs (t.drop p) := by unfold ivs; rw [List.map_drop]
theorem ivs_app (s t : List Nat) : ivs s ++ ivs t = ivs (s ++ t) := by unfold ivs; rw [List.map_append]
theorem bitsN_le (m n : Nat) : ∀ x ∈ bitsN m n, x ≤ 1 := fun x h => by
  obtain ⟨a, _, rfl⟩ := List.mem_map.mp h
  exact bitN_le m n a
theorem wordN_len (o ls : List Nat) (m c : Nat) : (wordN o ls m c).length = 2 ^ m := by unfold wordN; rw [List.length_map, List.length_range]
theorem ord_ok_le {k m : Nat} (h : m ≤ 4) (hk : k ≤ m) : (∀ o ∈ ordersN k, o.length = k ∧ ∀ x ∈ o, x < k) ∧ (ordersN k).length ≤ 24 := ord_ok (Nat.le_trans hk h)
theorem putW_len {d : Nat} {ks : List (List Int)} (h : ∀ w ∈ ks, w.length = d) {k : List Int} (hk : k.length = d) : ∀ w ∈ putW ks k, w.length = d := fun w hw => by
  unfold putW at hw
  split at hw
  · exact h w hw
  · rcases List.mem_append.mp hw with q | q
    · exact h w q
    · rw [List.mem_singleton.mp q]
      exact hk
theorem fold_len {d : Nat} : ∀ (l : List (List Int)) {ks : List (List Int)}, (∀ w ∈ ks, w.length = d) → (∀ w ∈ l, w.length = d) → ∀ w ∈ l.foldl putW ks, w.length = d
  | [], _, h, _ => h
  | k :: l, _, h, hl => fold_len l (putW_len h (hl k List.mem_cons_self)) fun w hw => hl w (List.mem_cons_of_mem _ hw)
theorem keysA_len (m : Nat) : ∀ w ∈ keysA m, w.length = 2 ^ m := by
  refine fold_len _ (fun _ h => by cases h) fun w hw => ?_
  obtain ⟨o, _, h1⟩ := List.mem_flatMap.mp hw
  obtain ⟨n, _, h2⟩ := List.mem_flatMap.mp h1
  rcases List.mem_cons.mp h2 with e | h2
  · rw [e]; exact wordN_len _ _ _ _
  · rw [List.mem_singleton.mp h2]; exact wordN_len _ _ _ _
theorem ok_words {gi gb gp : Addr} {gid gbd gpd : FuncData} (T : Tb mg) (F : Fun K "standard_words" "standard_words" sWords f fd) (hM : ∃ t, mg "MOST_LISTED" = some (.int 4 t))
    (Gi : FnOk P w K mg base CX0 2 gi gid ["value", "least", "most"] spIsIn) (bi : Binds K gid ["value", "least", "most"] []) (ki : PySem.W.keepIn K (.ref gi) = true) (mi : mg "is_in" = some (.ref gi))
    (Gb : FnOk P w K mg base CX0 1 gb gbd ["number", "many"] spBits) (bb : Binds K gbd ["number", "many"] []) (kb : PySem.W.keepIn K (.ref gb) = true) (mb : mg "bits_of" = some (.ref gb))
    (Gp : FnOk P w K mg base CX0 2 gp gpd ["order", "lines", "constant"] (spPath K)) (bp : Binds K gpd ["order", "lines", "constant"] []) (kp : PySem.W.keepIn K (.ref gp) = true) (mp : mg "path_word" = some (.ref gp)) :
    FnOk P w K mg base CX0 3 f fd ["many"] spStdWords := by
  refine F.ok scWords (fun vs H Q E h => ?_) (fun cdv A outer s H vs Q E hr h => ?_)
  · obtain ⟨m, rfl, _⟩ := h
    rfl
  obtain ⟨m, rfl, h1, h4, q⟩ := h
  obtain ⟨tM, hM⟩ := hM
  have hr1 := hr.mono (j := 1) (by decide)
  refine ⟨_, pss_cons (ps_if (pt_not (pt_val (pe_call Gi hr rfl mi ki bi .nil pass0 (pa_cons (pv 0) (pa_cons pe_int (pa_cons (pe_glob (v := .int 4) (by rfl) hM ⟨_, rfl⟩) pa_nil)))))) pss_never pss_nil)
    (pss_cons (ps_set (i := 1) scWords.nd rfl (Or.inl rfl) (pe_lst (pa_cons (pe_tup pa_nil) pa_nil)))
    (pss_cons (ps_for PassesOwn.never rfl (pi_range1 (by rfl) T.range (pa_cons (pv 0) pa_nil)) (pg_name (i := 2) scWords.nd rfl (Or.inr rfl))
      (pss_one (ps_setLc2 (i := 1) (own := [("told", 6), ("place", 7)]) (vs1 := [7]) (g := gName 6) (g1 := gName 7) (tt := tYes) (tt1 := tYes) (by rfl) scWords.nd rfl rfl (sw_true rfl rfl rfl (by decide +kernel)) (pi_list (pv 1))
        (blkOk_by (own := [("told", 6), ("place", 7)]) (N := nWords) (sc := defScope sWords) (by decide +kernel)) (by decide)
        (fun _ _ _ _ _ => pg_name (i := 6) scWords.nd rfl (Or.inl rfl)) (fun _ _ _ _ _ => pts_nil)
        (fun _ _ _ _ _ => pi_range1 (by rfl) T.range (pa_cons (pe_op op_add (pe_callB (r := rLenQ K) call_len_seq (by rfl) T.len PySem.boot_len (pa_cons (pv 6) pa_nil)) pe_int) pa_nil))
        (fun _ _ _ _ _ => pg_name (i := 7) scWords.nd rfl (Or.inl rfl)) (fun _ _ _ _ _ => pts_nil)
        (fun _ _ _ _ _ => pe_op (r := rCatA K) op_catA (pe_op (r := rCatA K) op_catA (pe_slice (r := rSlA K) sl_tupA (pv 6) po_none (po_some (pv 7))) (pe_tup (pa_cons (pv 2) pa_nil))) (pe_slice (r := rSlA K) sl_tupA (pv 6) (po_some (pv 7)) po_none)))))
    (pss_cons (ps_set (i := 3) scWords.nd rfl (Or.inl rfl) pe_dnewT)
    (pss_cons (ps_for PassesOwn.never rfl (pi_list (pv 1)) (pg_name (i := 4) scWords.nd rfl (Or.inl rfl))
      (pss_one (ps_for PassesOwn.never rfl (pi_range1 (by rfl) T.range (pa_cons (pe_op op_shl pe_int (pv 0)) pa_nil)) (pg_name (i := 5) scWords.nd rfl (Or.inl rfl))
        (pss_cons (ps_dput (hu_of hr) (pv 3) (pe_call Gp hr rfl mp kp bp .nil pass0 (pa_cons (pv 4) (pa_cons (pe_call Gb hr1 rfl mb kb bb .nil pass0 (pa_cons (pv 5) (pa_cons (pv 0) pa_nil))) (pa_cons pe_int pa_nil)))) pe_bl (by rfl))
        (pss_one (ps_dput (hu_of hr) (pv 3) (pe_call Gp hr rfl mp kp bp .nil pass0 (pa_cons (pv 4) (pa_cons (pe_call Gb hr1 rfl mb kb bb .nil pass0 (pa_cons (pv 5) (pa_cons (pv 0) pa_nil))) (pa_cons pe_int pa_nil)))) pe_bl (by rfl)))))))
    (pss_one (ps_ret (pe_callB (cr_sortedDW rfl) (by rfl) T.sorted (by decide +kernel) (pa_cons (pv 3) pa_nil)))))))), ?_⟩
  refine ⟨_, rfl, (m : Int), 1, 4, rfl, by omega, by omega, true, rfl, iteF ?_⟩
  refine ⟨by decide, fun e he => ⟨(show 1 ≤ sizeLine by decide), fun a0 ha0 => ?_⟩⟩
  refine ⟨_, rfl, (m : Int), rfl, by omega, by omega, ?_⟩
  have zz : (2000 : Nat) ≤ sizeLine := by decide
  refine for_range (n := m) (fun k σ H' => ∃ a ts x, σ = [some (.int m), some (.ref a), x, none, none, none, none, none] ∧ Same H H' ∧ H' a = some (.lst (ts.map V.ref)) ∧ Tn H' ts (ordersN k))
    ⟨a0, [e], none, rfl, same_upd (same_new he _) (same_new he _ |>.free ha0) _, upd_same, .cons (by rw [upd_ne (ne_of_none upd_same ha0), upd_same]; rfl) .nil⟩ (fun k σ H' hk p => ?_) (fun σ H' p => ?_)
  · obtain ⟨a, ts, x, rfl, g1, ha, ht⟩ := p
    rw [show (0 : Int) + (k : Int) = (k : Int) from Int.zero_add _]
    obtain ⟨hok, hol⟩ := ord_ok_le (k := k) h4 (by omega)
    have tl := pa_len ht
    refine ⟨_, rfl, a, rfl, ⟨_, SqL.of ha⟩, fun D hD => ?_⟩
    refine lcG (n := ts.length) (fun i H3 => Same H' H3 ∧ ∃ bs, H3 D = some (.lst (bs.map V.ref)) ∧ Tn H3 bs (((ordersN k).take i).flatMap (insN k)) ∧ bs.length ≤ i * 5) ⟨same_new hD _, [], upd_same, .nil, Nat.zero_le _⟩
      (fun i H3 hi p => ⟨_, _, (p.1).seq (SqL.of ha), List.getElem?_eq_getElem (by rw [List.length_map]; exact hi)⟩) (fun H3 p => ⟨_, (p.1).seq (SqL.of ha), by rw [List.length_map]; exact Nat.le_refl _⟩) (fun i x H3 H4 hi p y => ?_) (fun H3 p => ?_)
    · obtain ⟨g3, bs, hbs, htn, hbl⟩ := p
      obtain ⟨rfl, ey⟩ := y
      have ex := ey _ (g3.seq (SqL.of ha))
      rw [List.getElem?_map, List.getElem?_eq_getElem hi] at ex
      obtain rfl := (Option.some.inj ex).symm
      obtain ⟨o, ho, hto⟩ := pa_get ht (List.getElem?_eq_getElem hi)
      obtain ⟨lo, hlo⟩ := hok o (List.mem_of_getElem? ho)
      generalize ts[i] = t at hto
      refine ⟨rfl, tyesT ?_⟩
      refine ⟨_, rfl, t, _, rfl, .inr (SqT.of (g3 _ _ hto)), _, _, rfl, rfl, ((k + 1 : Nat) : Int), congrArg (fun z => [V.int z]) (by rw [ivs_len, lo]; rfl), by omega, by omega, ?_⟩
      refine lcG (n := k + 1) (fun j H5 => Same H' H5 ∧ ∃ bs, H5 D = some (.lst (bs.map V.ref)) ∧ Tn H5 bs (((ordersN k).take i).flatMap (insN k) ++ (List.range j).map fun p => o.take p ++ [k] ++ o.drop p) ∧ bs.length ≤ i * 5 + j) ⟨g3, bs, hbs, by simpa using htn, by omega⟩
        (fun _ _ hj _ => hj) (fun _ _ => Nat.le_refl (k + 1)) (fun j x H5 H6 hj p y => ?_) (fun H5 p => ?_)
      · obtain ⟨g5, bs, hbs, htn, hbl⟩ := p
        obtain ⟨rfl, rfl⟩ := y
        have ht5 := g5 _ _ hto
        rw [show (0 : Int) + (j : Int) = (j : Int) from Int.zero_add _]
        refine ⟨rfl, tyesT ?_⟩
        refine ⟨_, rfl, _, rfl, _, rfl, ?_⟩
        refine slA_of ht5 fun a1 Ha s1 e1 => ?_
        rw [cut_take (by rw [ivs_len]; omega), ivs_take] at e1
        refine ⟨_, rfl, (show 1 ≤ sizeLine by decide), fun a2 h2 => ?_⟩
        have e1' : (upd Ha a2 (.tup [V.int k])) a1 = some (.tup (ivs (o.take j))) := by rw [upd_ne (ne_of_none e1 h2)]; exact e1
        refine catA_of e1' (upd_same (o := .tup (ivs [k]))) (by rw [ivs_len, ivs_len, List.length_take]; show _ + 1 ≤ _; omega) fun a3 Hb s3 e3 => ?_
        rw [ivs_app] at e3
        have s13 : Same H6 Hb := s1.trans ((same_new h2 _).trans s3)
        refine ⟨_, rfl, _, rfl, _, rfl, ?_⟩
        dsimp only [tNoPart]
        refine slA_of (s13 _ _ ht5) fun a4 Hc s4 e4 => ?_
        rw [cut_drop (by rw [ivs_len]; omega), ivs_drop] at e4
        refine catA_of (s4 _ _ e3) e4 (by rw [ivs_len, ivs_len, List.length_append, List.length_take, List.length_drop]; show _ + 1 + _ ≤ _; omega) fun a5 Hd s5 e5 => ?_
        rw [ivs_app] at e5
        have sd : Same H6 Hd := s13.trans (s4.trans s5)
        refine ⟨_, sd _ _ hbs, by rw [List.length_map]; omega, same_upd (g5.trans sd) hD _, bs ++ [a5], by rw [upd_same, List.map_append]; rfl, ?_, by rw [List.length_append]; show _ + 1 ≤ _; omega⟩
        have ne : ∀ (t : Addr) (o : List Nat), Hd t = some (.tup (ivs o)) → (upd Hd D (.lst (bs.map V.ref ++ [V.ref a5]))) t = some (.tup (ivs o)) := fun t o h => by
          rw [upd_ne (ne_of h (sd _ _ hbs) (fun z => nomatch z))]
          exact h
        rw [List.range_succ, List.map_append, ← List.append_assoc]
        exact Paired.snoc (pa_imp ne (htn.same sd)) (ne _ _ e5)
      · obtain ⟨g5, bs, hbs, htn, hbl⟩ := p
        refine ⟨g5, bs, hbs, ?_, by omega⟩
        rw [take_fm (insN k) ho]
        have e : insN k o = (List.range (k + 1)).map fun p => o.take p ++ [k] ++ o.drop p := by unfold insN; rw [lo]
        rw [e]
        exact htn
    · obtain ⟨g3, bs, hbs, htn, hbl⟩ := p
      refine ⟨D, bs, _, rfl, g1.trans g3, hbs, ?_⟩
      rw [tl, List.take_length] at htn
      exact htn
  · obtain ⟨a, ts, x, rfl, g1, ha, ht⟩ := p
    obtain ⟨hok, hol⟩ := ord_ok h4
    have tl := pa_len ht
    have p5 := pow4 (m := m) (by omega)
    have nn : (0 : Int) ≤ ((2 ^ m : Nat) : Int) := Int.natCast_nonneg _
    have nl : ((2 ^ m : Nat) : Int) ≤ 32 := by exact_mod_cast p5
    refine fun d hd => ?_
    refine ⟨_, rfl, a, rfl, ⟨_, SqL.of (by rw [upd_ne (ne_of_none ha hd)]; exact ha)⟩, ?_⟩
    refine for_list (xs := ts.map V.ref) (fun i σ H2 => ∃ y z kvs, σ = [some (.int m), some (.ref a), x, some (.ref d), y, z, none, none] ∧ Same H' H2 ∧ H2 d = some (.dT kvs) ∧ kvs.map (·.1) = ((((ordersN m).take i).flatMap (famsA m)).foldl putW []).map wkey ∧ kvs.length ≤ i * 64)
      ⟨_, _, [], rfl, same_new hd _, upd_same, rfl, Nat.zero_le _⟩ (fun i σ H2 hi p => ?_) (fun i v σ H2 hv p => ?_) (fun σ H2 p => ?_)
    · obtain ⟨y, z, kvs, rfl, g2, _⟩ := p
      exact g2.seq (SqL.of ha)
    · obtain ⟨y, z, kvs, rfl, g2, hkd, hks, hkl⟩ := p
      rw [List.getElem?_map] at hv
      obtain ⟨t, htt, rfl⟩ := Option.map_eq_some_iff.mp hv
      obtain ⟨o, ho, hto⟩ := pa_get ht htt
      obtain ⟨lo, hlo⟩ := hok o (List.mem_of_getElem? ho)
      have hi : i < ts.length := (List.getElem?_eq_some_iff.mp htt).1
      refine ⟨_, rfl, _, _, rfl, rfl, ⟨by omega, by omega, by decide⟩, ((2 ^ m : Nat) : Int), congrArg (fun z => [V.int z]) (shl_one m), by omega, by omega, ?_⟩
      refine for_range (n := 2 ^ m) (fun j σ H3 => ∃ z kvs, σ = [some (.int m), some (.ref a), x, some (.ref d), some (.ref t), z, none, none] ∧ Same H' H3 ∧ H3 d = some (.dT kvs) ∧
          kvs.map (·.1) = ((((ordersN m).take i).flatMap (famsA m) ++ (List.range j).flatMap (famA m o)).foldl putW []).map wkey ∧ kvs.length ≤ i * 64 + 2 * j)
        ⟨_, kvs, rfl, g2, hkd, by simpa using hks, by omega⟩ (fun j σ H3 hj p => ?_) (fun σ H3 p => ?_)
      · obtain ⟨z, kvs, rfl, g3, hkd, hks, hkl⟩ := p
        rw [show (0 : Int) + (j : Int) = (j : Int) from Int.zero_add _]
        refine ⟨_, rfl, _, rfl, _, rfl, _, rfl, j, m, rfl, by omega, fun B H4 g4 nB hB => ?_⟩
        refine ⟨t, B, o, bitsN m j, m, 0, rfl, SqT.of (g4 _ _ (g3 _ _ hto)), SqL.of hB, lo, bitsN_len m j, h1, by omega, bitsN_le m j, hlo, fun p0 H5 g5 np0 hp0 => ?_⟩
        have hk5 := g5 _ _ (g4 _ _ hkd)
        refine ⟨d, _, rfl, DPut.t (k := wkey (wordN o (bitsN m j) m 0)) hk5 (by rw [wkey_kV]; exact hp0) (by omega), ?_⟩
        have s5 : Same H' (upd H5 d (.dT (putK kvs (wkey (wordN o (bitsN m j) m 0)) (.bl true)))) := same_upd (g3.trans (g4.trans g5)) hd _
        have k1 := keys_putK (v := .bl true) (k := wordN o (bitsN m j) m 0) hks
        have l1 := putK_le kvs (wkey (wordN o (bitsN m j) m 0)) (.bl true)
        generalize putK kvs (wkey (wordN o (bitsN m j) m 0)) (.bl true) = kvs1 at s5 k1 l1 ⊢
        have hd6 : (upd H5 d (.dT kvs1)) d = some (.dT kvs1) := upd_same
        generalize upd H5 d (.dT kvs1) = H6 at s5 hd6 ⊢
        refine ⟨_, rfl, _, rfl, _, rfl, _, rfl, j, m, rfl, by omega, fun B H7 g7 nB hB => ?_⟩
        refine ⟨t, B, o, bitsN m j, m, 1, rfl, SqT.of (g7 _ _ (s5 _ _ hto)), SqL.of hB, lo, bitsN_len m j, h1, by omega, bitsN_le m j, hlo, fun p1 H8 g8 np1 hp1 => ?_⟩
        have hk8 := g8 _ _ (g7 _ _ hd6)
        refine ⟨d, _, rfl, DPut.t (k := wkey (wordN o (bitsN m j) m 1)) hk8 (by rw [wkey_kV]; exact hp1) (by omega), ?_⟩
        have k2 := keys_putK (v := .bl true) (k := wordN o (bitsN m j) m 1) k1
        have l2 := putK_le kvs1 (wkey (wordN o (bitsN m j) m 1)) (.bl true)
        refine ⟨_, _, rfl, same_upd (s5.trans (g7.trans g8)) hd _, upd_same, ?_, by omega⟩
        rw [k2, range_fm, ← List.append_assoc]
        exact congrArg (List.map wkey) (fold2 _ _ _).symm
      · obtain ⟨z, kvs, rfl, g3, hkd, hks, hkl⟩ := p
        refine ⟨_, _, kvs, rfl, g3, hkd, ?_, by omega⟩
        rw [take_fm (famsA m) ho]
        exact hks
    · obtain ⟨y, z, kvs, rfl, g2, hkd, hks, hkl⟩ := p
      rw [List.length_map, tl, List.take_length] at hks
      refine ⟨_, rfl, d, kvs, keysA m, 2 ^ m, rfl, hkd, hks, Nat.one_le_two_pow, keysA_len m, fun ts2 mss p hpm hst hpr hp => ?_⟩
      exact q ts2 mss p _ (g1.trans (g2.trans (same_new hp _))) hpm hst (pa_imp (fun _ _ z => same_new hp _ _ _ z) hpr) upd_same
end
end Ek
namespace Ek
open PySem PySem.Spec L2
section
variable {P : Program} {w : World} {K : PySem.W.Frag} {mg : Str → Option Value} {base : Heap} {f : Addr} {fd : FuncData}
theorem pa_app {α β : Type} {R : α → β → Prop} : ∀ {xs zs : List α} {ys us : List β}, Paired R xs ys → Paired R zs us → Paired R (xs ++ zs) (ys ++ us)
  | _, _, _, _, .nil, s => s
  | _, _, _, _, .cons r t, s => .cons r (pa_app t s)
/-! ### _law_orders -/
def spOrders : Sp := fun vs H Q _ => ∃ m : Nat, vs = [.int m] ∧ m ≤ 4 ∧ ∀ (ts : List Addr) (p : Addr) (H' : Hp), Same H H' → Tn H' ts (ordersN m) → H' p = some (.lst (ts.map V.ref)) → Q (.ref p) H'
abbrev nOrders : List Str := ["_law_many", "_law_found", "_law_at", "_law_more", "_law_told", "_law_place"]
theorem scOrders : FnScope nOrders ["_law_many"] (defScope sOrders) := ⟨rfl, rfl, rfl, by decide +kernel, rfl, by decide +kernel, by decide +kernel⟩
theorem ok_orders (T : Tb mg) (F : Fun K "_law_orders" "_law_orders" sOrders f fd) : FnOk P w K mg base CX0 1 f fd ["_law_many"] spOrders := by
  refine F.ok scOrders (fun vs H Q E h => ?_) (fun cdv A outer s H vs Q E hr h => ?_)
  · obtain ⟨m, rfl, _⟩ := h
    rfl
  obtain ⟨m, rfl, h4, q⟩ := h
  refine ⟨_, pss_cons (ps_set (i := 1) scOrders.nd rfl (Or.inl rfl) (pe_lst (pa_cons (pe_tup pa_nil) pa_nil)))
    (pss_cons (ps_for PassesOwn.never rfl (pi_range1 (by rfl) T.range (pa_cons (pv 0) pa_nil)) (pg_name (i := 2) scOrders.nd rfl (Or.inr rfl))
      (pss_cons (ps_set (i := 3) scOrders.nd rfl (Or.inl rfl) (pe_lst pa_nil))
      (pss_cons (ps_for PassesOwn.never rfl (pi_list (pv 1)) (pg_name (i := 4) scOrders.nd rfl (Or.inr rfl))
        (pss_one (ps_set (i := 3) scOrders.nd rfl (Or.inl rfl) (pe_op op_cat (pv 3)
          (pe_lc (own := [("_law_place", 5)]) (g := gName 5) (tt := tYes) (by rfl) scOrders.nd (pi_range1 (by rfl) T.range (pa_cons (pe_op op_add (pv 2) pe_int) pa_nil)) (blkOk_by (own := [("_law_place", 5)]) (N := nOrders) (sc := defScope sOrders) (by decide +kernel))
            (fun _ _ _ _ _ => pg_name (i := 5) scOrders.nd rfl (Or.inl rfl)) (fun _ _ _ _ _ => pts_nil)
            (fun _ _ _ _ _ => pe_op (r := rCatA K) op_catA (pe_op (r := rCatA K) op_catA (pe_slice (r := rSlA K) sl_tupA (pv 4) po_none (po_some (pv 5))) (pe_tup (pa_cons (pv 2) pa_nil))) (pe_slice (r := rSlA K) sl_tupA (pv 4) (po_some (pv 5)) po_none)))))))
      (pss_one (ps_set (i := 1) scOrders.nd rfl (Or.inl rfl) (pv 3))))))
    (pss_one (ps_ret (pv 1)))), ?_⟩
  refine ⟨by decide, fun e he => ⟨(show 1 ≤ sizeLine by decide), fun a0 ha0 => ?_⟩⟩
  refine ⟨_, rfl, (m : Int), rfl, by omega, by omega, ?_⟩
  have zz : (2000 : Nat) ≤ sizeLine := by decide
  refine for_range (n := m) (fun k σ H' => ∃ a ts x y z, σ = [some (.int m), some (.ref a), x, y, z, none] ∧ Same H H' ∧ H' a = some (.lst (ts.map V.ref)) ∧ Tn H' ts (ordersN k))
    ⟨a0, [e], _, _, _, rfl, same_upd (same_new he _) (same_new he _ |>.free ha0) _, upd_same, .cons (by rw [upd_ne (ne_of_none upd_same ha0), upd_same]; rfl) .nil⟩ (fun k σ H' hk p => ?_) (fun σ H' p => ?_)
  · obtain ⟨a, ts, x, y, z, rfl, g1, ha, ht⟩ := p
    rw [show (0 : Int) + (k : Int) = (k : Int) from Int.zero_add _]
    obtain ⟨hok, hol⟩ := ord_ok_le (k := k) h4 (by omega)
    have tl := pa_len ht
    refine ⟨by decide, fun M0 hM0 => ?_⟩
    refine ⟨_, rfl, a, rfl, ⟨_, SqL.of (same_new hM0 _ _ _ ha)⟩, ?_⟩
    refine for_list (xs := ts.map V.ref) (fun i σ H2 => ∃ M bs z, σ = [some (.int m), some (.ref a), some (.int k), some (.ref M), z, none] ∧ Same H' H2 ∧ H2 M = some (.lst (bs.map V.ref)) ∧ Tn H2 bs (((ordersN k).take i).flatMap (insN k)) ∧ bs.length ≤ i * 5)
      ⟨M0, [], _, rfl, same_new hM0 _, upd_same, .nil, Nat.zero_le _⟩ (fun i σ H2 hi p => ?_) (fun i v σ H2 hv p => ?_) (fun σ H2 p => ?_)
    · obtain ⟨M, bs, z, rfl, g2, _⟩ := p
      exact g2.seq (SqL.of ha)
    · obtain ⟨M, bs, z, rfl, g2, hM, htn, hbl⟩ := p
      rw [List.getElem?_map] at hv
      obtain ⟨t, htt, rfl⟩ := Option.map_eq_some_iff.mp hv
      obtain ⟨o, ho, hto⟩ := pa_get ht htt
      obtain ⟨lo, hlo⟩ := hok o (List.mem_of_getElem? ho)
      have hi : i < ts.length := (List.getElem?_eq_some_iff.mp htt).1
      refine ⟨_, rfl, _, rfl, _, _, rfl, rfl, ((k + 1 : Nat) : Int), rfl, by omega, by omega, fun D hD => ?_⟩
      refine lcG (n := k + 1) (fun j H5 => Same H2 H5 ∧ ∃ cs, H5 D = some (.lst (cs.map V.ref)) ∧ Tn H5 cs ((List.range j).map fun p => o.take p ++ [k] ++ o.drop p) ∧ cs.length = j) ⟨same_new hD _, [], upd_same, .nil, rfl⟩
        (fun _ _ hj _ => hj) (fun _ _ => Nat.le_refl (k + 1)) (fun j x H5 H6 hj p y => ?_) (fun H5 p => ?_)
      · obtain ⟨g5, cs, hcs, hcn, hcl⟩ := p
        obtain ⟨rfl, rfl⟩ := y
        have ht5 := g5 _ _ (g2 _ _ hto)
        rw [show (0 : Int) + (j : Int) = (j : Int) from Int.zero_add _]
        refine ⟨rfl, tyesT ?_⟩
        refine ⟨_, rfl, _, rfl, _, rfl, ?_⟩
        refine slA_of ht5 fun a1 Ha s1 e1 => ?_
        rw [cut_take (by rw [ivs_len]; omega), ivs_take] at e1
        refine ⟨_, rfl, (show 1 ≤ sizeLine by decide), fun a2 h2 => ?_⟩
        have e1' : (upd Ha a2 (.tup [V.int k])) a1 = some (.tup (ivs (o.take j))) := by rw [upd_ne (ne_of_none e1 h2)]; exact e1
        refine catA_of e1' (upd_same (o := .tup (ivs [k]))) (by rw [ivs_len, ivs_len, List.length_take]; show _ + 1 ≤ _; omega) fun a3 Hb s3 e3 => ?_
        rw [ivs_app] at e3
        have s13 : Same H6 Hb := s1.trans ((same_new h2 _).trans s3)
        refine ⟨_, rfl, _, rfl, _, rfl, ?_⟩
        dsimp only [tNoPart]
        refine slA_of (s13 _ _ ht5) fun a4 Hc s4 e4 => ?_
        rw [cut_drop (by rw [ivs_len]; omega), ivs_drop] at e4
        refine catA_of (s4 _ _ e3) e4 (by rw [ivs_len, ivs_len, List.length_append, List.length_take, List.length_drop]; show _ + 1 + _ ≤ _; omega) fun a5 Hd s5 e5 => ?_
        rw [ivs_app] at e5
        have sd : Same H6 Hd := s13.trans (s4.trans s5)
        refine ⟨_, sd _ _ hcs, by rw [List.length_map]; omega, same_upd (g5.trans sd) hD _, cs ++ [a5], by rw [upd_same, List.map_append]; rfl, ?_, by rw [List.length_append]; show _ + 1 = _; omega⟩
        have ne : ∀ (t : Addr) (o : List Nat), Hd t = some (.tup (ivs o)) → (upd Hd D (.lst (cs.map V.ref ++ [V.ref a5]))) t = some (.tup (ivs o)) := fun t o h => by
          rw [upd_ne (ne_of h (sd _ _ hcs) (fun z => nomatch z))]
          exact h
        rw [List.range_succ, List.map_append]
        exact Paired.snoc (pa_imp ne (hcn.same sd)) (ne _ _ e5)
      · obtain ⟨g5, cs, hcs, hcn, hcl⟩ := p
        refine ⟨M, D, _, _, rfl, rfl, g5 _ _ hM, hcs, by rw [List.length_map, List.length_map]; omega, fun p hp => ?_⟩
        refine ⟨p, bs ++ cs, _, rfl, (g2.trans g5).trans (same_new hp _), by rw [upd_same, List.map_append], ?_, by rw [List.length_append]; omega⟩
        rw [take_fm (insN k) ho]
        have e : insN k o = (List.range (k + 1)).map fun p => o.take p ++ [k] ++ o.drop p := by unfold insN; rw [lo]
        rw [e]
        exact pa_app ((htn.same g5).same (same_new hp _)) (hcn.same (same_new hp _))
    · obtain ⟨M, bs, z, rfl, g2, hM, htn, hbl⟩ := p
      refine ⟨_, rfl, M, bs, _, _, _, rfl, g1.trans g2, hM, ?_⟩
      rw [List.length_map, tl, List.take_length] at htn
      exact htn
  · obtain ⟨a, ts, x, y, z, rfl, g1, ha, ht⟩ := p
    exact ⟨_, rfl, q ts a H' g1 ht ha⟩

/-! ### _law_standard -/
abbrev nStd : List Str := ["_law_order", "_law_lines", "_law_constant", "_law_many", "_law_found", "_law_number", "_law_bits", "_law_at", "_law_told"]
theorem scStd : FnScope nStd ["_law_order", "_law_lines", "_law_constant"] (defScope sStd) := ⟨rfl, rfl, rfl, by decide +kernel, rfl, by decide +kernel, by decide +kernel⟩
theorem bit_val2 {m n i : Nat} (h : i < m) : (n : Int) / (1 * 2 ^ ((m : Int) - 1 - (0 + (i : Int))).toNat) % 2 = ((bitN m n i : Nat) : Int) := by
  have e : ((m : Int) - 1 - (0 + (i : Int))).toNat = m - 1 - i := by omega
  rw [e, Int.one_mul]
  unfold bitN
  push_cast
  rfl
/-- what is told behind i turns -/
def partN (o ls : List Nat) (m n c i : Nat) : Nat := c + sumN i (fun i => ls.getD i 0 * bitN m n i) + sumN (min i (m - 1)) (fun a => bitN m n (o.getD a 0) * bitN m n (o.getD (a + 1) 0))
theorem sumN_succ (n : Nat) (f : Nat → Nat) : sumN (n + 1) f = sumN n f + f n := by
  unfold sumN
  rw [List.range_succ, List.map_append, List.sum_append]
  simp
theorem partN_zero {o ls : List Nat} {m n c : Nat} : partN o ls m n c 0 = c := by
  unfold partN sumN
  rw [Nat.zero_min]
  simp
theorem partN_more {o ls : List Nat} {m n c j : Nat} (h : j + 1 < m) : partN o ls m n c (j + 1) = partN o ls m n c j + ls.getD j 0 * bitN m n j + bitN m n (o.getD j 0) * bitN m n (o.getD (j + 1) 0) := by
  unfold partN
  rw [show min (j + 1) (m - 1) = j + 1 by omega, show min j (m - 1) = j by omega, sumN_succ, sumN_succ]
  omega
theorem partN_last {o ls : List Nat} {m n c j : Nat} (hj : j < m) (h : ¬ j + 1 < m) : partN o ls m n c (j + 1) = partN o ls m n c j + ls.getD j 0 * bitN m n j := by
  unfold partN
  rw [show min (j + 1) (m - 1) = min j (m - 1) by omega, sumN_succ]
  omega
theorem partN_all {o ls : List Nat} {m n c : Nat} : partN o ls m n c m = toldN o ls m n c := by
  unfold partN toldN
  rw [show min m (m - 1) = m - 1 by omega]
theorem ok_std (T : Tb mg) (F : Fun K "_law_standard" "_law_standard" sStd f fd) : FnOk P w K mg base CX0 1 f fd ["_law_order", "_law_lines", "_law_constant"] (spPath K) := by
  refine F.ok scStd (fun vs H Q E h => ?_) (fun cdv A outer s H vs Q E hr h => ?_)
  · obtain ⟨ao, al, o, ls, m, c, rfl, _⟩ := h
    rfl
  obtain ⟨ao, al, o, ls, m, c, rfl, ho, hl, lo, ll, h1, h5, hls, hos, q⟩ := h
  refine ⟨_, (pss_cons (ps_par (i := 3) (j := 4) (by rfl) scStd.nd rfl rfl (by decide) rfl rfl (pa_cons (pe_callB call_len_seq (by rfl) T.len PySem.boot_len (pa_cons (pv 0) pa_nil)) (pa_cons (pe_lst pa_nil) pa_nil)) (by rfl)) (pss_cons (ps_for PassesOwn.never rfl (pi_range1 (by rfl) T.range (pa_cons (pe_op op_shl pe_int (pv 3)) pa_nil)) (pg_name (i := 5) scStd.nd rfl (Or.inl rfl)) (pss_cons (ps_set (i := 6) scStd.nd rfl (Or.inl rfl) (pe_lst pa_nil)) (pss_cons (ps_for PassesOwn.never rfl (pi_range1 (by rfl) T.range (pa_cons (pv 3) pa_nil)) (pg_name (i := 7) scStd.nd rfl (Or.inl rfl)) (pss_one (ps_expr (pe_bm PySem.F.plainAttrs_list PySem.F.slot_list_append PySem.F.type_list_append mt_append (pv 6) (pa_cons (pe_op op_mod (pe_op op_fdiv (pv 5) (pe_op op_shl pe_int (pe_op op_sub (pe_op op_sub (pv 3) pe_int) (pv 7)))) pe_int) pa_nil))))) (pss_cons (ps_set (i := 8) scStd.nd rfl (Or.inl rfl) (pv 2)) (pss_cons (ps_for PassesOwn.never rfl (pi_range1 (by rfl) T.range (pa_cons (pv 3) pa_nil)) (pg_name (i := 7) scStd.nd rfl (Or.inl rfl)) (pss_cons (ps_set (i := 8) scStd.nd rfl (Or.inl rfl) (pe_op op_add (pv 8) (pe_op op_mul (pe_ix ix_list (pv 1) (pv 7) (fun _ _ => rfl)) (pe_ix ix_list (pv 6) (pv 7) (fun _ _ => rfl))))) (pss_one (ps_if (pt_cmpR op_lt (pe_op op_add (pv 7) pe_int) (pv 3) (nomark _)) (pss_one (ps_set (i := 8) scStd.nd rfl (Or.inl rfl) (pe_op op_add (pv 8) (pe_op op_mul (pe_ix ix_list (pv 6) (pe_ix ix_tup (pv 0) (pv 7) (fun _ _ => rfl)) (fun _ _ => rfl)) (pe_ix ix_list (pv 6) (pe_ix ix_tup (pv 0) (pe_op op_add (pv 7) pe_int) (fun _ _ => rfl)) (fun _ _ => rfl)))))) pss_nil)))) (pss_one (ps_expr (pe_bm PySem.F.plainAttrs_list PySem.F.slot_list_append PySem.F.type_list_append mt_append (pv 4) (pa_cons (pe_ifExp (pt_cmpR op_eq (pe_op op_mod (pv 8) pe_int) pe_int (nomark _)) (pe_un un_neg pe_int) pe_int) pa_nil))))))))) (pss_one (ps_ret (pe_callTy call_tuple_of (by rfl) T.tuple (by decide +kernel) (pa_cons (pv 4) pa_nil)))))), ?_⟩
  refine ⟨_, rfl, _, _, rfl, .inr ho, by decide, fun D hD => ?_⟩
  refine ⟨_, _, rfl, ?_⟩
  have el : (ivs o).length = m := (ivs_len o).trans lo
  have p5 := pow4 h5
  have z5 : (32 : Nat) ≤ sizeLine := by decide
  have nn : (0 : Int) ≤ ((2 ^ m : Nat) : Int) := Int.natCast_nonneg _
  have nl : ((2 ^ m : Nat) : Int) ≤ 32 := by exact_mod_cast p5
  rw [el]
  refine ⟨_, rfl, _, _, rfl, rfl, ⟨by omega, by omega, by decide⟩, ((2 ^ m : Nat) : Int), congrArg (fun z => [V.int z]) (shl_one m), by omega, by omega, ?_⟩
  refine for_range (n := 2 ^ m) (fun i σ H' => ∃ a b x t, σ = [some (.ref ao), some (.ref al), some (.int c), some (.int m), some (.ref D), a, b, x, t] ∧ Same H H' ∧ H' D = some (.lst (((List.range i).map fun n => sgn (toldN o ls m n c)).map V.int)))
    ⟨_, _, _, _, rfl, same_new hD _, upd_same⟩ (fun i σ H' hi p => ?_) (fun σ H' p => ?_)
  · obtain ⟨a0, b0, x0, t0, rfl, g1, hDl⟩ := p
    rw [show (0 : Int) + (i : Int) = (i : Int) from Int.zero_add _]
    refine ⟨by decide, fun B hB => ?_⟩
    refine ⟨_, rfl, (m : Int), rfl, by omega, by omega, ?_⟩
    refine for_range (n := m) (fun j σ H2 => ∃ x, σ = [some (.ref ao), some (.ref al), some (.int c), some (.int m), some (.ref D), some (.int i), some (.ref B), x, t0] ∧ Same H' H2 ∧ H2 B = some (.lst (ivs ((List.range j).map (bitN m i)))))
      ⟨_, rfl, same_new hB _, upd_same⟩ (fun j σ H2 hj p => ?_) (fun σ H2 p => ?_)
    · obtain ⟨x1, rfl, g2, hB2⟩ := p
      refine ⟨_, rfl, .inl ⟨rfl, _, SqL.of hB2⟩, _, rfl, _, rfl, _, _, rfl, rfl, _, rfl, _, _, rfl, rfl, _, _, rfl, rfl, ⟨by omega, by omega, by decide⟩, ?_⟩
      have pk := pow4 (m := m - 1 - j) (by omega)
      have ek : ((m : Int) - 1 - (0 + (j : Int))).toNat = m - 1 - j := by omega
      have ep : (1 : Int) * 2 ^ ((m : Int) - 1 - (0 + (j : Int))).toNat = ((2 ^ (m - 1 - j) : Nat) : Int) := by rw [ek, Int.one_mul]; push_cast; rfl
      have pp : 0 < 2 ^ (m - 1 - j) := Nat.two_pow_pos _
      refine ⟨_, _, rfl, rfl, ⟨?_, ?_⟩, _, _, rfl, rfl, (show (0 : Int) < 2 by decide), ?_⟩
      · rw [ep]; exact_mod_cast pp
      · rw [ep]; exact Int.lt_of_le_of_lt (show ((2 ^ (m - 1 - j) : Nat) : Int) ≤ 32 by exact_mod_cast pk) (by decide)
      dsimp only
      rw [bit_val2 hj]
      refine ⟨B, _, _, rfl, rfl, hB2, by rw [ivs_len, List.length_map, List.length_range]; omega, _, rfl, same_upd g2 hB _, ?_⟩
      rw [upd_same, List.range_succ, List.map_append, ← ivs_app]
      rfl
    obtain ⟨x1, rfl, g2, hB2⟩ := p
    refine ⟨_, rfl, _, rfl, (m : Int), rfl, by omega, by omega, ?_⟩
    have g12 := g1.trans g2
    have hD2 := g2 _ _ hDl
    have ho2 := seqT_of g12 ho
    have hl2 := g12.seq hl
    have hB2 : H2 B = some (.lst (ivs (bitsN m i))) := hB2
    refine for_range (n := m) (fun j σ H3 => H3 = H2 ∧ ∃ x, σ = [some (.ref ao), some (.ref al), some (.int c), some (.int m), some (.ref D), some (.int i), some (.ref B), x, some (.int ((partN o ls m i c j : Nat) : Int))])
      ⟨rfl, _, by rw [partN_zero]; rfl⟩ (fun j σ H3 hj p => ?_) (fun σ H3 p => ?_)
    · obtain ⟨rfl, x1, rfl⟩ := p
      rw [show (0 : Int) + (j : Int) = (j : Int) from Int.zero_add _]
      have b1 := getD_le hls j
      refine ⟨_, rfl, _, rfl, _, rfl, al, ivs ls, _, _, rfl, rfl, hl2, atI_nat (ivs_at (by omega)), _, rfl, _, rfl, B, _, _, _, rfl, rfl, SqL.of hB2, atI_nat (ivs_at (by rw [bitsN_len]; exact hj)), _, _, rfl, rfl, .inl ⟨by omega, by omega⟩, _, _, rfl, rfl, ?_⟩
      dsimp only
      rw [bits_at hj, ← Int.natCast_mul, ← Int.natCast_add]
      refine ⟨_, rfl, _, _, rfl, rfl, _, rfl, _, _, rfl, rfl, _, rfl, ?_⟩
      by_cases c1 : j + 1 < m
      · have e1 : decide ((j : Int) + 1 < (m : Int)) = true := decide_eq_true (by omega)
        rw [e1]
        have x1 := getD_lt (i := j) hos (by omega)
        have x2 := getD_lt (i := j + 1) hos (by omega)
        refine iteT ⟨_, rfl, _, rfl, _, rfl, _, rfl, ao, ivs o, _, _, rfl, rfl, ho2, atI_nat (ivs_at (by omega)), B, _, _, _, rfl, rfl, SqL.of hB2, atI_nat (ivs_at (by rw [bitsN_len]; exact x1)),
          _, rfl, _, rfl, _, rfl, _, _, rfl, rfl, ao, ivs o, _, _, rfl, rfl, ho2, at_of (j := j + 1) (by omega) (ivs_at (by omega)), B, _, _, _, rfl, rfl, SqL.of hB2, atI_nat (ivs_at (by rw [bitsN_len]; exact x2)), _, _, rfl, rfl, ?_⟩
        rw [bits_at x1, bits_at x2]
        have b2 := bitN_le m i (o.getD j 0)
        refine ⟨.inl ⟨by omega, by omega⟩, _, _, rfl, rfl, ?_⟩
        dsimp only
        rw [← Int.natCast_mul, ← Int.natCast_add, ← partN_more c1]
        exact ⟨rfl, _, rfl⟩
      · have e1 : decide ((j : Int) + 1 < (m : Int)) = false := decide_eq_false (by omega)
        rw [e1]
        rw [← partN_last hj c1]
        exact iteF ⟨rfl, _, rfl⟩
    obtain ⟨rfl, x1, rfl⟩ := p
    rw [partN_all]
    have len : (((List.range i).map fun n => sgn (toldN o ls m n c)).map V.int).length < sizeLine := by
      rw [List.length_map, List.length_map, List.length_range]
      omega
    have fin : ∀ z : Int, z = sgn (toldN o ls m i c) → Same H (upd H3 D (.lst ((((List.range i).map fun n => sgn (toldN o ls m n c)).map V.int) ++ [V.int z]))) ∧
        (upd H3 D (.lst ((((List.range i).map fun n => sgn (toldN o ls m n c)).map V.int) ++ [V.int z]))) D = some (.lst (((List.range (i + 1)).map fun n => sgn (toldN o ls m n c)).map V.int)) := fun z e => by
      refine ⟨same_upd g12 hD _, ?_⟩
      rw [upd_same, e, List.range_succ, List.map_append, List.map_append]
      rfl
    refine ⟨_, rfl, .inl ⟨rfl, _, SqL.of hD2⟩, _, rfl, _, _, rfl, rfl, (show (0 : Int) < 2 by decide), rfl, _, rfl, ?_⟩
    by_cases ht : toldN o ls m i c % 2 = 1
    · have e1 : decide (V.int (((toldN o ls m i c : Nat) : Int) % 2) = V.int 1) = true := decide_eq_true (by rw [show (((toldN o ls m i c : Nat) : Int) % 2) = 1 by omega])
      rw [e1]
      refine iteT ⟨_, rfl, D, _, _, rfl, rfl, hD2, len, _, _, _, _, rfl, fin _ ?_⟩
      unfold sgn
      rw [if_pos ht]
    · have e1 : decide (V.int (((toldN o ls m i c : Nat) : Int) % 2) = V.int 1) = false := decide_eq_false (fun e => ht (by have := V.int.inj e; omega))
      rw [e1]
      refine iteF ⟨D, _, _, rfl, rfl, hD2, len, _, _, _, _, rfl, fin _ ?_⟩
      unfold sgn
      rw [if_neg ht]
  · obtain ⟨a0, b0, x0, t0, rfl, g1, hDl⟩ := p
    refine ⟨_, rfl, D, _, rfl, .inl ⟨SqL.of hDl, fun p hp => ?_⟩⟩
    refine q p _ (same_upd g1 (g1.free hp) _) (g1.free hp) ?_
    rw [upd_same]
    rfl
end
end Ek
namespace Ek
open PySem PySem.Spec L2
section
variable {P : Program} {w : World} {K : PySem.W.Frag} {mg : Str → Option Value} {base : Heap} {f : Addr} {fd : FuncData}
/-! ### _law_alike, of ints, of words, of lists of words -/
def spAlikeI : Sp := fun vs H Q _ => ∃ i : Int, vs = [.int i, .int i] ∧ ∀ H', Same H H' → Q (.bl true) H'
def spAlikeT : Sp := fun vs H Q _ => ∃ (a b : Addr) (ns : List Int), vs = [.ref a, .ref b] ∧ H a = some (.tup (ns.map V.int)) ∧ H b = some (.tup (ns.map V.int)) ∧ ns.length ≤ 1000 ∧ ∀ H', Same H H' → Q (.bl true) H'
def spAlikeL : Sp := fun vs H Q _ => ∃ (a b : Addr) (ts us : List Addr) (mss : List (List Int)), vs = [.ref a, .ref b] ∧ H a = some (.lst (ts.map V.ref)) ∧ H b = some (.lst (us.map V.ref)) ∧ Paired (fun t ms => H t = some (.tup (ms.map V.int))) ts mss ∧
  Paired (fun t ms => H t = some (.tup (ms.map V.int))) us mss ∧ mss.length ≤ 1000 ∧ (∀ ms ∈ mss, ms.length ≤ 1000) ∧ ∀ H', Same H H' → Q (.bl true) H'
abbrev nAlike : List Str := ["_law_found", "_law_due", "_law_k"]
theorem scAlike : FnScope nAlike ["_law_found", "_law_due"] (defScope sAlike) := ⟨rfl, rfl, rfl, by decide +kernel, rfl, by decide +kernel, by decide +kernel⟩
theorem kitI {K : PySem.W.Frag} : PySem.W.kitAny K (.type "int") [.type "tuple", .type "list"] = some false :=
  kitAny_cons (b := false) (kit_ty (by decide +kernel)) (fun _ => kitAny_cons (b := false) (kit_ty (by decide +kernel)) (fun _ => kitAny_nil) fun h => nomatch h) fun h => nomatch h
theorem kitT {K : PySem.W.Frag} : PySem.W.kitAny K (.type "tuple") [.type "tuple", .type "list"] = some true :=
  kitAny_cons (b := true) (kit_ty (by decide +kernel)) (fun h => nomatch h) fun _ => rfl
theorem kitL {K : PySem.W.Frag} : PySem.W.kitAny K (.type "list") [.type "tuple", .type "list"] = some true :=
  kitAny_cons (b := false) (kit_ty (by decide +kernel)) (fun _ => kitAny_cons (b := true) (kit_ty (by decide +kernel)) (fun h => nomatch h) fun _ => rfl) fun h => nomatch h
theorem tls {H : Hp} {T : Addr} : Paired ClsV [V.ty "tuple", V.ty "list"] [.type "tuple", .type "list"] := .cons (.ty _) (.cons (.ty _) .nil)
theorem ok_alikeI (T : Tb mg) (F : Fun K "_law_alike" "_law_alike" sAlike f fd) : FnOk P w K mg base CX0 1 f fd ["_law_found", "_law_due"] spAlikeI := by
  refine F.ok scAlike (fun vs H Q E h => ?_) (fun cdv A outer s H vs Q E hr h => ?_)
  · obtain ⟨i, rfl, _⟩ := h
    rfl
  obtain ⟨i, rfl, q⟩ := h
  refine ⟨_, (pss_cons (ps_if (pt_val (pe_callB call_isiT (by rfl) T.isi (by decide +kernel) (pa_cons (pv 1) (pa_cons (pe_tup (pa_cons (pe_bltn (v := .ty "tuple") (by rfl) T.tuple (by decide +kernel) rfl) (pa_cons (pe_bltn (v := .ty "list") (by rfl) T.list (by decide +kernel) rfl) pa_nil))) pa_nil)))) pss_never pss_nil) (pss_cons (ps_if (PW.pt (pw_or (pt_cmpR op_isN (pv 1) pe_non (nomark _)) (pw_or1 (pt_val (pe_callB call_isi (by rfl) T.isi (by decide +kernel) (pa_cons (pv 1) (pa_cons (pe_bltn (v := .ty "str") (by rfl) T.str (by decide +kernel) rfl) pa_nil))))))) pss_never pss_nil) (pss_one (ps_ret (pe_and (pe_callB call_isi (by rfl) T.isi (by decide +kernel) (pa_cons (pv 0) (pa_cons (pe_bltn (v := .ty "int") (by rfl) T.int (by decide +kernel) rfl) pa_nil))) (pe_and (pe_cmpR op_eq (pe_callB call_isi (by rfl) T.isi (by decide +kernel) (pa_cons (pv 0) (pa_cons (pe_bltn (v := .ty "bool") (by rfl) T.bool (by decide +kernel) rfl) pa_nil))) (pe_callB call_isi (by rfl) T.isi (by decide +kernel) (pa_cons (pv 1) (pa_cons (pe_bltn (v := .ty "bool") (by rfl) T.bool (by decide +kernel) rfl) pa_nil))) (nomark _)) (pe_one (pe_cmpR op_eq (pv 0) (pv 1) (nomark _))))))))), ?_⟩
  refine ⟨_, rfl, (show 2 ≤ sizeLine by decide), fun tp htp => ?_⟩
  refine ⟨.int i, tp, _, _, _, false, rfl, upd_same, .cons (.ty _) (.cons (.ty _) .nil), .base (.int i), kitI, false, rfl, iteF ?_⟩
  have g1 := same_new htp (.tup [V.ty "tuple", V.ty "list"])
  refine ⟨_, rfl, rfl, _, rfl, ?_⟩
  rw [show decide (V.int i = V.non) = false from decide_eq_false (fun h => nomatch h)]
  refine iteF ⟨_, rfl, .int i, .ty "str", _, _, false, rfl, .ty "str", .base (.int i), kit_ty (by decide +kernel), false, rfl, iteF ?_⟩
  refine ⟨_, rfl, .int i, .ty "int", _, _, true, rfl, .ty "int", .base (.int i), kit_ty (by decide +kernel), true, rfl, iteT ?_⟩
  refine ⟨_, rfl, .int i, .ty "bool", _, _, false, rfl, .ty "bool", .base (.int i), kit_ty (by decide +kernel), _, rfl, .int i, .ty "bool", _, _, false, rfl, .ty "bool", .base (.int i), kit_ty (by decide +kernel), rfl, _, rfl, ?_⟩
  rw [decide_eq_true (show V.bl false = V.bl false from rfl)]
  refine iteT ⟨_, rfl, _, rfl, rfl, ?_⟩
  have e : decide (V.int i = V.int i) = true := decide_eq_true rfl
  rw [e]
  exact q _ g1
theorem ok_alikeT {g : Addr} {gd : FuncData} (T : Tb mg) (F : Fun K "_law_alike" "_law_alike" sAlike f fd) (G : FnOk P w K mg base CX0 1 g gd ["_law_found", "_law_due"] spAlikeI) (bG : Binds K gd ["_law_found", "_law_due"] []) (kG : PySem.W.keepIn K (.ref g) = true) (mG : mg "_law_alike" = some (.ref g)) :
    FnOk P w K mg base CX0 2 f fd ["_law_found", "_law_due"] spAlikeT := by
  refine F.ok scAlike (fun vs H Q E h => ?_) (fun cdv A outer s H vs Q E hr h => ?_)
  · obtain ⟨a, b, ns, rfl, _⟩ := h
    rfl
  obtain ⟨a, b, ns, rfl, ha, hb, hn, q⟩ := h
  refine ⟨_, (pss_cons (ps_if (pt_val (pe_callB call_isiT (by rfl) T.isi (by decide +kernel) (pa_cons (pv 1) (pa_cons (pe_tup (pa_cons (pe_bltn (v := .ty "tuple") (by rfl) T.tuple (by decide +kernel) rfl) (pa_cons (pe_bltn (v := .ty "list") (by rfl) T.list (by decide +kernel) rfl) pa_nil))) pa_nil)))) (pss_cons (ps_if (PW.pt (pw_or (pt_not (pt_val (pe_callB call_isiT (by rfl) T.isi (by decide +kernel) (pa_cons (pv 0) (pa_cons (pe_tup (pa_cons (pe_bltn (v := .ty "tuple") (by rfl) T.tuple (by decide +kernel) rfl) (pa_cons (pe_bltn (v := .ty "list") (by rfl) T.list (by decide +kernel) rfl) pa_nil))) pa_nil))))) (pw_or1 (pt_cmpR op_ne (pe_callB call_isi (by rfl) T.isi (by decide +kernel) (pa_cons (pv 0) (pa_cons (pe_bltn (v := .ty "list") (by rfl) T.list (by decide +kernel) rfl) pa_nil))) (pe_callB call_isi (by rfl) T.isi (by decide +kernel) (pa_cons (pv 1) (pa_cons (pe_bltn (v := .ty "list") (by rfl) T.list (by decide +kernel) rfl) pa_nil))) (nomark _))))) pss_never pss_nil) (pss_cons (ps_if (pt_cmpR op_ne (pe_callB call_len_seq (by rfl) T.len PySem.boot_len (pa_cons (pv 0) pa_nil)) (pe_callB call_len_seq (by rfl) T.len PySem.boot_len (pa_cons (pv 1) pa_nil)) (nomark _)) pss_never pss_nil) (pss_one (ps_ret (pe_cmpR (op_eqD hr.units) (pe_lc (own := [("_law_k", 2)]) (g := gName 2) (tt := _) (by rfl) scAlike.nd (pi_range1 (by rfl) T.range (pa_cons (pe_callB call_len_seq (by rfl) T.len PySem.boot_len (pa_cons (pv 1) pa_nil)) pa_nil)) (blkOk_by (own := [("_law_k", 2)]) (N := nAlike) (sc := defScope sAlike) (by decide +kernel)) (fun _ _ _ _ _ => (pg_name (i := 2) scAlike.nd rfl (Or.inl rfl))) (fun _ _ _ _ _ => (pts_one (pt_not (pt_val (pe_call G hr rfl mG kG bG .nil pass0 (pa_cons (pe_ix (r := rIxT K) ix_tup (pv 0) (pv 2) (fun _ _ => rfl)) (pa_cons (pe_ix (r := rIxT K) ix_tup (pv 1) (pv 2) (fun _ _ => rfl)) pa_nil))))))) (fun _ _ _ _ _ => (pv 2))) (pe_lst pa_nil) (nomark _)))))) pss_nil) pss_never), ?_⟩
  refine ⟨_, rfl, (show 2 ≤ sizeLine by decide), fun tp htp => ?_⟩
  have g1 := same_new htp (.tup [V.ty "tuple", V.ty "list"])
  refine ⟨.ref b, tp, _, _, _, true, rfl, upd_same, .cons (.ty _) (.cons (.ty _) .nil), .base (.tup (g1 _ _ hb)), kitT, true, rfl, iteT ?_⟩
  refine ⟨_, rfl, (show 2 ≤ sizeLine by decide), fun tq htq => ?_⟩
  have g2 := g1.trans (same_new htq (.tup [V.ty "tuple", V.ty "list"]))
  refine ⟨.ref a, tq, _, _, _, true, rfl, upd_same, .cons (.ty _) (.cons (.ty _) .nil), .base (.tup (g2 _ _ ha)), kitT, true, rfl, iteF ?_⟩
  generalize upd (upd H tp (.tup [V.ty "tuple", V.ty "list"])) tq (.tup [V.ty "tuple", V.ty "list"]) = H2 at g2 ⊢
  have ha2 := g2 _ _ ha
  have hb2 := g2 _ _ hb
  refine ⟨_, rfl, .ref a, .ty "list", _, _, false, rfl, .ty "list", .base (.tup ha2), kit_ty (by decide +kernel), _, rfl, .ref b, .ty "list", _, _, false, rfl, .ty "list", .base (.tup hb2), kit_ty (by decide +kernel), rfl, _, rfl, iteNS rfl ?_⟩
  refine ⟨_, rfl, a, _, rfl, .inr (SqT.of ha2), _, rfl, b, _, rfl, .inr (SqT.of hb2), rfl, _, rfl, iteNS rfl ?_⟩
  refine ⟨_, rfl, b, _, rfl, .inr (SqT.of hb2), ((ns.length : Nat) : Int), congrArg (fun z => [V.int z]) (by rw [List.length_map]), by omega, by omega, fun D hD => ?_⟩
  refine lcG (n := ns.length) (fun j H5 => Same H2 H5 ∧ H5 D = some (.lst [])) ⟨same_new hD _, upd_same⟩ (fun _ _ hj _ => hj) (fun _ _ => Nat.le_refl _) (fun j v H5 H6 hj p y => ?_) (fun H5 p => ?_)
  · obtain ⟨g5, h5⟩ := p
    obtain ⟨rfl, rfl⟩ := y
    rw [show (0 : Int) + (j : Int) = (j : Int) from Int.zero_add _]
    have e1 : (ns.map V.int)[j]? = some (V.int ns[j]) := by rw [List.getElem?_map, List.getElem?_eq_getElem hj]; rfl
    refine ⟨rfl, _, rfl, _, rfl, a, _, _, _, rfl, rfl, SqT.of (g5 _ _ ha2), atI_nat e1, _, rfl, _, rfl, b, _, _, _, rfl, rfl, SqT.of (g5 _ _ hb2), atI_nat e1, ns[j], rfl, fun H7 g7 => ?_⟩
    exact ⟨true, rfl, iteF ⟨g5.trans g7, g7 _ _ h5⟩⟩
  · obtain ⟨g5, h5⟩ := p
    refine ⟨by decide, fun e he => ?_⟩
    refine ⟨.list [], .list [], .lst (SqL.of (same_new he _ _ _ h5)) .nil, .lst (SqL.of upd_same) .nil, by decide, by decide, ?_⟩
    have ev : PyData.eqv (.list []) (.list []) = true := by simp [PyData.eqv, PyData.eqvAll]
    rw [ev]
    exact q _ ((g2.trans g5).trans (same_new he _))
theorem ok_alikeL {g : Addr} {gd : FuncData} (T : Tb mg) (F : Fun K "_law_alike" "_law_alike" sAlike f fd) (G : FnOk P w K mg base CX0 2 g gd ["_law_found", "_law_due"] spAlikeT) (bG : Binds K gd ["_law_found", "_law_due"] []) (kG : PySem.W.keepIn K (.ref g) = true) (mG : mg "_law_alike" = some (.ref g)) :
    FnOk P w K mg base CX0 3 f fd ["_law_found", "_law_due"] spAlikeL := by
  refine F.ok scAlike (fun vs H Q E h => ?_) (fun cdv A outer s H vs Q E hr h => ?_)
  · obtain ⟨a, b, ts, us, mss, rfl, _⟩ := h
    rfl
  obtain ⟨a, b, ts, us, mss, rfl, ha, hb, ht2, hu2, hn, hmm, q⟩ := h
  have l1 := pa_len ht2
  have l2 := pa_len hu2
  refine ⟨_, (pss_cons (ps_if (pt_val (pe_callB call_isiT (by rfl) T.isi (by decide +kernel) (pa_cons (pv 1) (pa_cons (pe_tup (pa_cons (pe_bltn (v := .ty "tuple") (by rfl) T.tuple (by decide +kernel) rfl) (pa_cons (pe_bltn (v := .ty "list") (by rfl) T.list (by decide +kernel) rfl) pa_nil))) pa_nil)))) (pss_cons (ps_if (PW.pt (pw_or (pt_not (pt_val (pe_callB call_isiT (by rfl) T.isi (by decide +kernel) (pa_cons (pv 0) (pa_cons (pe_tup (pa_cons (pe_bltn (v := .ty "tuple") (by rfl) T.tuple (by decide +kernel) rfl) (pa_cons (pe_bltn (v := .ty "list") (by rfl) T.list (by decide +kernel) rfl) pa_nil))) pa_nil))))) (pw_or1 (pt_cmpR op_ne (pe_callB call_isi (by rfl) T.isi (by decide +kernel) (pa_cons (pv 0) (pa_cons (pe_bltn (v := .ty "list") (by rfl) T.list (by decide +kernel) rfl) pa_nil))) (pe_callB call_isi (by rfl) T.isi (by decide +kernel) (pa_cons (pv 1) (pa_cons (pe_bltn (v := .ty "list") (by rfl) T.list (by decide +kernel) rfl) pa_nil))) (nomark _))))) pss_never pss_nil) (pss_cons (ps_if (pt_cmpR op_ne (pe_callB call_len_seq (by rfl) T.len PySem.boot_len (pa_cons (pv 0) pa_nil)) (pe_callB call_len_seq (by rfl) T.len PySem.boot_len (pa_cons (pv 1) pa_nil)) (nomark _)) pss_never pss_nil) (pss_one (ps_ret (pe_cmpR (op_eqD hr.units) (pe_lc (own := [("_law_k", 2)]) (g := gName 2) (tt := _) (by rfl) scAlike.nd (pi_range1 (by rfl) T.range (pa_cons (pe_callB call_len_seq (by rfl) T.len PySem.boot_len (pa_cons (pv 1) pa_nil)) pa_nil)) (blkOk_by (own := [("_law_k", 2)]) (N := nAlike) (sc := defScope sAlike) (by decide +kernel)) (fun _ _ _ _ _ => (pg_name (i := 2) scAlike.nd rfl (Or.inl rfl))) (fun _ _ _ _ _ => (pts_one (pt_not (pt_val (pe_call G hr rfl mG kG bG .nil pass0 (pa_cons (pe_ix (r := rIxL K) ix_list (pv 0) (pv 2) (fun _ _ => rfl)) (pa_cons (pe_ix (r := rIxL K) ix_list (pv 1) (pv 2) (fun _ _ => rfl)) pa_nil))))))) (fun _ _ _ _ _ => (pv 2))) (pe_lst pa_nil) (nomark _)))))) pss_nil) pss_never), ?_⟩
  refine ⟨_, rfl, (show 2 ≤ sizeLine by decide), fun tp htp => ?_⟩
  have g1 := same_new htp (.tup [V.ty "tuple", V.ty "list"])
  refine ⟨.ref b, tp, _, _, _, true, rfl, upd_same, .cons (.ty _) (.cons (.ty _) .nil), .base (.lst (g1 _ _ hb)), kitL, true, rfl, iteT ?_⟩
  refine ⟨_, rfl, (show 2 ≤ sizeLine by decide), fun tq htq => ?_⟩
  have g2 := g1.trans (same_new htq (.tup [V.ty "tuple", V.ty "list"]))
  refine ⟨.ref a, tq, _, _, _, true, rfl, upd_same, .cons (.ty _) (.cons (.ty _) .nil), .base (.lst (g2 _ _ ha)), kitL, true, rfl, iteF ?_⟩
  generalize upd (upd H tp (.tup [V.ty "tuple", V.ty "list"])) tq (.tup [V.ty "tuple", V.ty "list"]) = H2 at g2 ⊢
  have ha2 := g2 _ _ ha
  have hb2 := g2 _ _ hb
  refine ⟨_, rfl, .ref a, .ty "list", _, _, true, rfl, .ty "list", .base (.lst ha2), kit_ty (by decide +kernel), _, rfl, .ref b, .ty "list", _, _, true, rfl, .ty "list", .base (.lst hb2), kit_ty (by decide +kernel), rfl, _, rfl, iteNS rfl ?_⟩
  refine ⟨_, rfl, a, _, rfl, .inl (SqL.of ha2), _, rfl, b, _, rfl, .inl (SqL.of hb2), rfl, _, rfl, iteNS (by rw [List.length_map, List.length_map, l1, l2]) ?_⟩
  refine ⟨_, rfl, b, _, rfl, .inl (SqL.of hb2), ((mss.length : Nat) : Int), congrArg (fun z => [V.int z]) (by rw [List.length_map, l2]), by omega, by omega, fun D hD => ?_⟩
  refine lcG (n := mss.length) (fun j H5 => Same H2 H5 ∧ H5 D = some (.lst [])) ⟨same_new hD _, upd_same⟩ (fun _ _ hj _ => hj) (fun _ _ => Nat.le_refl _) (fun j v H5 H6 hj p y => ?_) (fun H5 p => ?_)
  · obtain ⟨g5, h5⟩ := p
    obtain ⟨rfl, rfl⟩ := y
    rw [show (0 : Int) + (j : Int) = (j : Int) from Int.zero_add _]
    obtain ⟨t, ht⟩ : ∃ t, ts[j]? = some t := ⟨_, List.getElem?_eq_getElem (by omega)⟩
    obtain ⟨u, hu⟩ : ∃ u, us[j]? = some u := ⟨_, List.getElem?_eq_getElem (by omega)⟩
    obtain ⟨ms, hms, htt⟩ := pa_get ht2 ht
    obtain ⟨ms', hms', huu⟩ := pa_get hu2 hu
    rw [hms] at hms'
    cases hms'
    have e1 : (ts.map V.ref)[j]? = some (V.ref t) := by rw [List.getElem?_map, ht]; rfl
    have e2 : (us.map V.ref)[j]? = some (V.ref u) := by rw [List.getElem?_map, hu]; rfl
    refine ⟨rfl, _, rfl, _, rfl, a, _, _, _, rfl, rfl, SqL.of (g5 _ _ ha2), atI_nat e1, _, rfl, _, rfl, b, _, _, _, rfl, rfl, SqL.of (g5 _ _ hb2), atI_nat e2, t, u, ms, rfl, (g2.trans g5) _ _ htt, (g2.trans g5) _ _ huu, hmm _ (List.mem_of_getElem? hms), fun H7 g7 => ?_⟩
    exact ⟨true, rfl, iteF ⟨g5.trans g7, g7 _ _ h5⟩⟩
  · obtain ⟨g5, h5⟩ := p
    refine ⟨by decide, fun e he => ?_⟩
    refine ⟨.list [], .list [], .lst (SqL.of (same_new he _ _ _ h5)) .nil, .lst (SqL.of upd_same) .nil, by decide, by decide, ?_⟩
    have ev : PyData.eqv (.list []) (.list []) = true := by simp [PyData.eqv, PyData.eqvAll]
    rw [ev]
    exact q _ ((g2.trans g5).trans (same_new he _))
/-! ### _law_taken -/
def spTaken (K : PySem.W.Frag) : Sp := fun vs H Q _ => ∃ (r a : Addr) (k i x y : Int) (ns : List Int), vs = [.ref r, .int k] ∧ 0 < k ∧ k < 1000 ∧ H r = some (.lst [.ref a, .int i, .int x, .int y]) ∧ SqL K H a (ns.map V.int) ∧ 0 ≤ i ∧ 0 ≤ x ∧ x < 2 ^ 31 ∧
  ∀ (z : Int) (H' : Hp) (i' x' y' : Int), 0 ≤ z → z < k → (∀ b o, b ≠ r → H b = some o → H' b = some o) → H' r = some (.lst [.ref a, .int i', .int x', .int y']) → 0 ≤ i' → 0 ≤ x' → x' < 2 ^ 31 → Q (.int z) H'
abbrev nTaken : List Str := ["_law_row", "_law_many", "_law_found", "_law_cell"]
theorem scTaken : FnScope nTaken ["_law_row", "_law_many"] (defScope sTaken) := ⟨rfl, rfl, rfl, by decide +kernel, rfl, by decide +kernel, by decide +kernel⟩
theorem seq_upd {H : Hp} {a r b : Addr} {ns : List Int} {l : List V} {o : HO} (h : SqL K H a (ns.map V.int)) (hr : H r = some (.lst (.ref b :: l))) : SqL K (upd H r o) a (ns.map V.int) := by
  rcases h with (h | ⟨u, h⟩) | h
  · have ne : a ≠ r := fun e => by
      rw [e, hr] at h
      have e2 := HO.lst.inj (Option.some.inj h)
      cases ns with
      | nil => cases e2
      | cons n ns =>
        have e3 := (List.cons.inj e2).1
        cases e3
    exact .inl (.inl (by rw [upd_ne ne]; exact h))
  · have ne : a ≠ r := fun e => by
      rw [e, hr] at h
      cases h
    exact .inl (.inr ⟨u, by rw [upd_ne ne]; exact h⟩)
  · exact .inr h
theorem ok_taken (T : Tb mg) (F : Fun K "_law_taken" "_law_taken" sTaken f fd) : FnOk P w K mg base CX0 1 f fd ["_law_row", "_law_many"] (spTaken K) := by
  refine F.ok scTaken (fun vs H Q E h => ?_) (fun cdv A outer s H vs Q E hr h => ?_)
  · obtain ⟨r, a, k, i, x, y, ns, rfl, _⟩ := h
    rfl
  obtain ⟨r, a, k, i, x, y, ns, rfl, k0, k1, hrow, hS, i0, x0, x1, q⟩ := h
  refine ⟨_, (pss_cons (ps_if (pt_cmpR op_gt (pe_ix ix_list (pv 0) pe_int (fun _ _ => rfl)) pe_int (nomark _)) (pss_cons (ps_set (i := 2) scTaken.nd rfl (Or.inl rfl) (pe_op op_mod (pe_callTy call_int1 (by rfl) T.int (by decide +kernel) (pa_cons (pe_ix ix_list (pv 0) pe_int (fun _ _ => rfl)) pa_nil)) (pv 1))) (pss_cons (ps_asg (pe_op op_fdiv (pe_ix ix_list (pv 0) pe_int (fun _ _ => rfl)) (pv 1)) (pg_sub (pv 0) pe_int set_list)) (pss_one (ps_ret (pv 2))))) pss_nil) (pss_cons (ps_asg (pe_op op_add (pe_ix ix_list (pv 0) pe_int (fun _ _ => rfl)) pe_int) (pg_sub (pv 0) pe_int set_list)) (pss_cons (ps_if (pt_cmpR op_gt (pe_ix ix_list (pv 0) pe_int (fun _ _ => rfl)) (pe_callB call_len_seq (by rfl) T.len PySem.boot_len (pa_cons (pe_ix ix_list (pv 0) pe_int (fun _ _ => rfl)) pa_nil)) (nomark _)) (pss_cons (ps_asg (pe_op op_mod (pe_callTy call_int1 (by rfl) T.int (by decide +kernel) (pa_cons (pe_op op_add (pe_op op_mul (pe_ix ix_list (pv 0) pe_int (fun _ _ => rfl)) pe_int) pe_int) pa_nil)) pe_int) (pg_sub (pv 0) pe_int set_list)) (pss_one (ps_ret (pe_op op_mod (pe_callTy call_int1 (by rfl) T.int (by decide +kernel) (pa_cons (pe_op op_fdiv (pe_ix ix_list (pv 0) pe_int (fun _ _ => rfl)) pe_int) pa_nil)) (pv 1))))) pss_nil) (pss_cons (ps_set (i := 3) scTaken.nd rfl (Or.inl rfl) (pe_ix ix_list (pe_ix ix_list (pv 0) pe_int (fun _ _ => rfl)) (pe_op op_sub (pe_ix ix_list (pv 0) pe_int (fun _ _ => rfl)) pe_int) (fun _ _ => rfl))) (pss_cons (ps_asg (pe_op op_mod (pe_callTy call_int1 (by rfl) T.int (by decide +kernel) (pa_cons (pe_op op_add (pe_op op_add (pe_op op_mul (pe_ix ix_list (pv 0) pe_int (fun _ _ => rfl)) pe_int) (pv 3)) pe_int) pa_nil)) pe_int) (pg_sub (pv 0) pe_int set_list)) (pss_cons (ps_if (pt_cmpR op_ge (pv 3) (pe_op op_pow pe_int pe_int) (nomark _)) (pss_one (ps_asg (pe_op op_fdiv (pv 3) (pv 1)) (pg_sub (pv 0) pe_int set_list))) pss_nil) (pss_one (ps_ret (pe_op op_mod (pe_callTy call_int1 (by rfl) T.int (by decide +kernel) (pa_cons (pv 3) pa_nil)) (pv 1)))))))))), ?_⟩
  have mM : (0 : Int) < 2147483647 := by decide
  refine ⟨_, rfl, r, _, _, _, rfl, rfl, SqL.of hrow, atI_nat (j := 3) rfl, _, _, rfl, rfl, _, rfl, ite2 (fun c => ?_) (fun c => ?_)⟩
  · refine ⟨_, rfl, r, _, _, _, rfl, rfl, SqL.of hrow, atI_nat (j := 3) rfl, .inl ⟨_, rfl, _, rfl, _, _, rfl, rfl, k0, ?_⟩⟩
    refine ⟨_, rfl, r, _, _, _, rfl, rfl, SqL.of hrow, atI_nat (j := 3) rfl, _, rfl, _, _, rfl, rfl, ⟨k0, by omega⟩, _, rfl, r, _, _, 3, rfl, rfl, hrow, rfl, ?_⟩
    exact ⟨_, rfl, q _ _ _ _ _ (Int.emod_nonneg _ (by omega)) (Int.emod_lt_of_pos _ k0) (fun b o ne hb => by rw [upd_ne ne]; exact hb) upd_same i0 x0 x1⟩
  · refine ⟨_, rfl, r, _, _, _, rfl, rfl, SqL.of hrow, atI_nat (j := 1) rfl, _, _, rfl, rfl, _, rfl, r, _, _, 1, rfl, rfl, hrow, rfl, ?_⟩
    have k1 : ∀ b o, b ≠ r → H b = some o → (upd H r (.lst [.ref a, .int (i + 1), .int x, .int y])) b = some o := fun b o ne hb => by rw [upd_ne ne]; exact hb
    have hrow1 : (upd H r (.lst [.ref a, .int (i + 1), .int x, .int y])) r = some (.lst [.ref a, .int (i + 1), .int x, .int y]) := upd_same
    have hS1 : SqL K (upd H r (.lst [.ref a, .int (i + 1), .int x, .int y])) a (ns.map V.int) := seq_upd hS hrow
    show _
    refine ⟨_, rfl, r, _, _, _, rfl, rfl, SqL.of hrow1, atI_nat (j := 1) rfl, _, rfl, r, _, _, _, rfl, rfl, SqL.of hrow1, atI_nat (j := 0) rfl, a, _, rfl, .inl hS1, _, _, rfl, rfl, _, rfl, ite2 (fun c1 => ?_) (fun c1 => ?_)⟩
    · refine ⟨_, rfl, r, _, _, _, rfl, rfl, SqL.of hrow1, atI_nat (j := 2) rfl, _, _, rfl, rfl, .inl ⟨by omega, by omega⟩, _, _, rfl, rfl, .inl ⟨_, rfl, _, _, rfl, rfl, mM, _, rfl, r, _, _, 2, rfl, rfl, hrow1, rfl, ?_⟩⟩
      refine ⟨_, rfl, r, _, _, _, rfl, rfl, SqL.of upd_same, atI_nat (j := 2) rfl, _, _, rfl, rfl, ⟨by decide, by decide⟩, .inl ⟨_, rfl, _, rfl, _, _, rfl, rfl, k0, ?_⟩⟩
      refine q _ _ _ _ _ (Int.emod_nonneg _ (by omega)) (Int.emod_lt_of_pos _ k0) (fun b o ne hb => by rw [upd_ne ne]; exact k1 b o ne hb) upd_same (by omega) (Int.emod_nonneg _ (by omega)) ?_
      exact Int.lt_trans (Int.emod_lt_of_pos _ mM) (by decide)
    · have c2 := of_decide_eq_false (Bool.eq_false_iff.mpr c1)
      rw [List.length_map] at c2
      have hi : i.toNat < ns.length := by omega
      have hcell : atI (ns.map V.int) (i + 1 - 1) = some (V.int ns[i.toNat]) := at_of (j := i.toNat) (by omega) (by rw [List.getElem?_map, List.getElem?_eq_getElem hi]; rfl)
      generalize ns[i.toNat] = cell at hcell
      refine ⟨_, rfl, r, _, _, _, rfl, rfl, SqL.of hrow1, atI_nat (j := 0) rfl, _, rfl, r, _, _, _, rfl, rfl, SqL.of hrow1, atI_nat (j := 1) rfl, _, _, rfl, rfl, a, _, _, _, rfl, rfl, hS1, hcell, ?_⟩
      refine ⟨_, rfl, r, _, _, _, rfl, rfl, SqL.of hrow1, atI_nat (j := 2) rfl, _, _, rfl, rfl, .inl ⟨by omega, by omega⟩, _, rfl, _, _, rfl, rfl, _, _, rfl, rfl, .inl ⟨_, rfl, _, _, rfl, rfl, mM, _, rfl, r, _, _, 2, rfl, rfl, hrow1, rfl, ?_⟩⟩
      have k2 : ∀ b o, b ≠ r → H b = some o → (upd (upd H r (.lst [.ref a, .int (i + 1), .int x, .int y])) r (.lst [.ref a, .int (i + 1), .int ((x * 48271 + cell + 11) % 2147483647), .int y])) b = some o := fun b o ne hb => by rw [upd_ne ne]; exact k1 b o ne hb
      refine ⟨_, rfl, _, _, rfl, rfl, ⟨by decide, by decide, by decide⟩, _, _, rfl, rfl, _, rfl, ite2 (fun c3 => ?_) (fun c3 => ?_)⟩
      · refine ⟨_, rfl, _, rfl, _, _, rfl, rfl, ⟨k0, by omega⟩, _, rfl, r, _, _, 3, rfl, rfl, upd_same, rfl, ?_⟩
        refine ⟨_, rfl, .inl ⟨_, rfl, _, rfl, _, _, rfl, rfl, k0, ?_⟩⟩
        refine q _ _ _ _ _ (Int.emod_nonneg _ (by omega)) (Int.emod_lt_of_pos _ k0) (fun b o ne hb => by rw [upd_ne ne]; exact k2 b o ne hb) upd_same (by omega) (Int.emod_nonneg _ (by omega)) ?_
        exact Int.lt_trans (Int.emod_lt_of_pos _ mM) (by decide)
      · refine ⟨_, rfl, .inl ⟨_, rfl, _, rfl, _, _, rfl, rfl, k0, ?_⟩⟩
        refine q _ _ _ _ _ (Int.emod_nonneg _ (by omega)) (Int.emod_lt_of_pos _ k0) k2 upd_same (by omega) (Int.emod_nonneg _ (by omega)) ?_
        exact Int.lt_trans (Int.emod_lt_of_pos _ mM) (by decide)
end
end Ek
namespace Ek
open PySem PySem.Spec L2
theorem alloc {H : Hp} {o : HO} {Q : VK} (h : ∀ p H', H p = none → Same H H' → H' p = some o → Q (.ref p) H') : ∀ p, H p = none → Q (.ref p) (upd H p o) := fun p hp => h p _ hp (same_new hp o) upd_same
/-! ### the mathematics: echoes -/
def echoI (ns : List Int) (k : Nat) : Int := ((List.range (ns.length - k)).map fun i => ns.getD i 0 * ns.getD (i + k) 0).sum
def cancelB (ns ms : List Int) : Bool := ((List.range (ns.length - 1)).map fun i => decide (echoI ns (i + 1) + echoI ms (i + 1) = 0)).all id
def Bin (ns : List Int) : Prop := ∀ x ∈ ns, -1 ≤ x ∧ x ≤ 1
theorem bin_at {ns : List Int} (h : Bin ns) (i : Nat) : -1 ≤ ns.getD i 0 ∧ ns.getD i 0 ≤ 1 := by
  by_cases hi : i < ns.length
  · have e : ns.getD i 0 = ns[i] := by simp [List.getD, hi]
    rw [e]
    exact h _ (List.getElem_mem hi)
  · have e : ns.getD i 0 = 0 := by simp [List.getD, Nat.le_of_not_lt hi]
    rw [e]
    decide
theorem int_at {ns : List Int} {i : Nat} (h : i < ns.length) : (ns.map V.int)[i]? = some (V.int (ns.getD i 0)) := by
  rw [List.getElem?_map, List.getElem?_eq_getElem h]
  simp [List.getD, h]
section
variable {P : Program} {w : World} {K : PySem.W.Frag} {mg : Str → Option Value} {base : Heap} {f : Addr} {fd : FuncData}
/-! ### echo -/
def spEcho : Sp := fun vs H Q _ => ∃ (a : Addr) (ns : List Int) (k : Nat), vs = [.ref a, .ref a, .int k] ∧ H a = some (.tup (ns.map V.int)) ∧ Bin ns ∧ ns.length ≤ 100 ∧ k ≤ ns.length ∧ ∀ H', Same H H' → Q (.int (echoI ns k)) H'
abbrev nEcho : List Str := ["one", "other", "step", "left", "right"]
theorem scEcho : FnScope nEcho ["one", "other", "step"] (defScope sEcho) := ⟨rfl, rfl, rfl, by decide +kernel, rfl, by decide +kernel, by decide +kernel⟩
theorem ok_echo (T : Tb mg) (F : Fun K "echo" "echo" sEcho f fd) : FnOk P w K mg base CX0 1 f fd ["one", "other", "step"] spEcho := by
  refine F.ok scEcho (fun vs H Q E h => ?_) (fun cdv A outer s H vs Q E hr h => ?_)
  · obtain ⟨a, ns, k, rfl, _⟩ := h
    rfl
  obtain ⟨a, ns, k, rfl, ha, hb, hn, hk, q⟩ := h
  have zz : (100 : Nat) ≤ sizeLine := by decide
  have l0 : (ns.map V.int).length = ns.length := List.length_map _
  refine ⟨_, (pss_one (ps_ret (pe_callB (cr_sum rfl) (by rfl) T.sum (by decide +kernel) (pa_cons (pe_lc (own := [("left", 3), ("right", 4)]) (g := gTup K 2 (gCons (gName 3) (gCons (gName 4) (gNil)))) (tt := tYes) (by rfl) scEcho.nd (RZ.pi_zipA (by rfl) T.zip (pa_cons (pv 0) (pa_cons (pe_slice sl_tupA (pv 1) (po_some (pv 2)) po_none) pa_nil))) (blkOk_by (own := [("left", 3), ("right", 4)]) (N := nEcho) (sc := defScope sEcho) (by decide +kernel)) (fun _ _ _ _ _ => (pg_tup rfl (pgs_cons (pg_name (i := 3) scEcho.nd rfl (Or.inl rfl)) (pgs_cons (pg_name (i := 4) scEcho.nd rfl (Or.inl rfl)) pgs_nil)))) (fun _ _ _ _ _ => pts_nil) (fun _ _ _ _ _ => (pe_op op_mul (pv 3) (pv 4)))) pa_nil)))), ?_⟩
  refine ⟨_, rfl, _, rfl, _, rfl, _, rfl, ?_⟩
  dsimp only [tNoPart]
  refine slA_of ha fun b H1 g1 hb1 => ?_
  rw [cut_drop (by omega), ← List.map_drop] at hb1
  have l1 : ((ns.drop k).map V.int).length = ns.length - k := by rw [List.length_map, List.length_drop]
  refine ⟨a, b, _, _, rfl, .inr ⟨SqT.of (g1 _ _ ha), SqT.of hb1, fun D hD => ?_⟩⟩
  refine lcm_zipT (fun i => V.int (ns.getD i 0 * ns.getD (i + k) 0)) (SqT.of (g1 _ _ ha)) (SqT.of hb1) (by omega) (by omega) hD (fun i x y t H2 Qe hx hy g2 ht qe => ?_) (fun H2 g2 hl => ?_)
  · have hi : i < ns.length - k := by
      have := (List.getElem?_eq_some_iff.mp hy).1
      omega
    rw [int_at (by omega)] at hx
    rw [List.map_drop, List.getElem?_drop, int_at (by omega), Nat.add_comm k i] at hy
    cases hx
    cases hy
    have b1 := bin_at hb i
    refine ⟨t, _, rfl, SqT.of upd_same, rfl, _, _, rfl, _, _, rfl, rfl, rfl, ?_⟩
    exact ⟨_, rfl, _, rfl, _, _, rfl, rfl, .inl ⟨by omega, by omega⟩, qe _ (same_new ht _)⟩
  · refine ⟨D, (List.range (ns.length - k)).map fun i => ns.getD i 0 * ns.getD (i + k) 0, rfl, SqL.of (by rw [hl, l1, List.map_map]; rfl), ?_⟩
    exact q _ (g1.trans g2)
/-! ### echoes_of -/
def spEchoes : Sp := fun vs H Q _ => ∃ (a : Addr) (ns : List Int), vs = [.ref a] ∧ H a = some (.tup (ns.map V.int)) ∧ Bin ns ∧ ns.length ≤ 100 ∧ ∀ p H', Same H H' → H' p = some (.lst ((List.range ns.length).map fun i => V.int (echoI ns i))) → Q (.ref p) H'
abbrev nEchoes : List Str := ["word", "step"]
theorem scEchoes : FnScope nEchoes ["word"] (defScope sEchoes) := ⟨rfl, rfl, rfl, by decide +kernel, rfl, by decide +kernel, by decide +kernel⟩
theorem ok_echoes {g : Addr} {gd : FuncData} (T : Tb mg) (F : Fun K "echoes_of" "echoes_of" sEchoes f fd) (G : FnOk P w K mg base CX0 1 g gd ["one", "other", "step"] spEcho) (bG : Binds K gd ["one", "other", "step"] []) (kG : PySem.W.keepIn K (.ref g) = true) (mG : mg "echo" = some (.ref g)) :
    FnOk P w K mg base CX0 2 f fd ["word"] spEchoes := by
  refine F.ok scEchoes (fun vs H Q E h => ?_) (fun cdv A outer s H vs Q E hr h => ?_)
  · obtain ⟨a, ns, rfl, _⟩ := h
    rfl
  obtain ⟨a, ns, rfl, ha, hb, hn, q⟩ := h
  have zz : (100 : Nat) ≤ sizeLine := by decide
  refine ⟨_, (pss_one (ps_ret (pe_lc (own := [("step", 1)]) (g := gName 1) (tt := tYes) (by rfl) scEchoes.nd (pi_range1 (by rfl) T.range (pa_cons (pe_callB call_len_seq (by rfl) T.len PySem.boot_len (pa_cons (pv 0) pa_nil)) pa_nil)) (blkOk_by (own := [("step", 1)]) (N := nEchoes) (sc := defScope sEchoes) (by decide +kernel)) (fun _ _ _ _ _ => (pg_name (i := 1) scEchoes.nd rfl (Or.inl rfl))) (fun _ _ _ _ _ => pts_nil) (fun _ _ _ _ _ => (pe_call G hr rfl mG kG bG .nil pass0 (pa_cons (pv 0) (pa_cons (pv 0) (pa_cons (pv 1) pa_nil)))))))), ?_⟩
  refine ⟨_, rfl, a, _, rfl, .inr (SqT.of ha), ((ns.length : Nat) : Int), congrArg (fun z => [V.int z]) (by rw [List.length_map]), by omega, by omega, fun D hD => ?_⟩
  refine lcm_range (n := ns.length) (fun i => V.int (echoI ns i)) (by omega) hD (fun i H2 Qe hi g2 qe => ?_) (fun H2 g2 hl => q D H2 g2 hl)
  rw [show (0 : Int) + (i : Int) = (i : Int) from Int.zero_add _]
  exact ⟨rfl, _, rfl, _, rfl, _, rfl, a, ns, i, rfl, g2 _ _ ha, hb, hn, by omega, fun H3 g3 => qe _ g3⟩
/-! ### cancel -/
def spCancel : Sp := fun vs H Q _ => ∃ (a b : Addr) (ns ms : List Int), vs = [.ref a, .ref b] ∧ H a = some (.tup (ns.map V.int)) ∧ H b = some (.tup (ms.map V.int)) ∧ Bin ns ∧ Bin ms ∧ ns.length = ms.length ∧ 1 ≤ ns.length ∧ ns.length ≤ 100 ∧ ∀ H', Same H H' → Q (.bl (cancelB ns ms)) H'
abbrev nCancel : List Str := ["one", "other", "left", "right"]
theorem scCancel : FnScope nCancel ["one", "other"] (defScope sCancel) := ⟨rfl, rfl, rfl, by decide +kernel, rfl, by decide +kernel, by decide +kernel⟩
theorem ok_cancel {g : Addr} {gd : FuncData} (T : Tb mg) (F : Fun K "cancel" "cancel" sCancel f fd) (G : FnOk P w K mg base CX0 2 g gd ["word"] spEchoes) (bG : Binds K gd ["word"] []) (kG : PySem.W.keepIn K (.ref g) = true) (mG : mg "echoes_of" = some (.ref g)) :
    FnOk P w K mg base CX0 3 f fd ["one", "other"] spCancel := by
  refine F.ok scCancel (fun vs H Q E h => ?_) (fun cdv A outer s H vs Q E hr h => ?_)
  · obtain ⟨a, b, ns, ms, rfl, _⟩ := h
    rfl
  obtain ⟨a, b, ns, ms, rfl, ha, hb, ba, bb, hl, h1, hn, q⟩ := h
  have zz : (100 : Nat) ≤ sizeLine := by decide
  refine ⟨_, (pss_one (ps_ret (pe_callB (cr_all rfl) (by rfl) T.all (by decide +kernel) (pa_cons (pe_lc (own := [("left", 2), ("right", 3)]) (g := gTup K 2 (gCons (gName 2) (gCons (gName 3) (gNil)))) (tt := tYes) (by rfl) scCancel.nd (pi_zip (by rfl) T.zip (pa_cons (pe_slice sl_list (pe_call G hr rfl mG kG bG .nil pass0 (pa_cons (pv 0) pa_nil)) (po_some pe_int) po_none) (pa_cons (pe_slice sl_list (pe_call G hr rfl mG kG bG .nil pass0 (pa_cons (pv 1) pa_nil)) (po_some pe_int) po_none) pa_nil))) (blkOk_by (own := [("left", 2), ("right", 3)]) (N := nCancel) (sc := defScope sCancel) (by decide +kernel)) (fun _ _ _ _ _ => (pg_tup rfl (pgs_cons (pg_name (i := 2) scCancel.nd rfl (Or.inl rfl)) (pgs_cons (pg_name (i := 3) scCancel.nd rfl (Or.inl rfl)) pgs_nil)))) (fun _ _ _ _ _ => pts_nil) (fun _ _ _ _ _ => (pe_cmpR op_eq (pe_op op_add (pv 2) (pv 3)) pe_int (nomark _)))) pa_nil)))), ?_⟩
  have cut1 : ∀ (n : Nat) (h : Nat → V), 1 ≤ n → cutV ((List.range n).map h) (some 1) none = ((List.range n).map h).drop 1 := fun n h hn => cut_drop (p := 1) (by rw [List.length_map, List.length_range]; exact hn)
  have len1 : ∀ (n : Nat) (h : Nat → V), (((List.range n).map h).drop 1).length = n - 1 := fun n h => by rw [List.length_drop, List.length_map, List.length_range]
  have at1 : ∀ (n : Nat) (h : Nat → V) (i : Nat) (x : V), (((List.range n).map h).drop 1)[i]? = some x → i < n - 1 ∧ x = h (i + 1) := fun n h i x e => by
    have hi : i < n - 1 := by
      have := (List.getElem?_eq_some_iff.mp e).1
      rw [len1] at this
      exact this
    refine ⟨hi, ?_⟩
    rw [List.getElem?_drop, List.getElem?_map, List.getElem?_range (by omega), Nat.add_comm] at e
    exact (Option.some.inj e).symm
  refine ⟨_, rfl, a, ns, rfl, ha, ba, hn, fun p1 H1 g1 e1 => ⟨_, rfl, p1, _, rfl, SqL.of e1, fun s1 hs1 => ?_⟩⟩
  have g1' := g1.trans (same_new hs1 (.lst (cutV ((List.range ns.length).map fun i => V.int (echoI ns i)) (some 1) none)))
  refine ⟨_, rfl, b, ms, rfl, g1' _ _ hb, bb, by omega, fun p2 H2 g2 e2 => ⟨_, rfl, p2, _, rfl, SqL.of e2, fun s2 hs2 => ?_⟩⟩
  have g2' := g2.trans (same_new hs2 (.lst (cutV ((List.range ms.length).map fun i => V.int (echoI ms i)) (some 1) none)))
  have ea := g2' _ _ (upd_same (H := H1) (a := s1) (o := .lst (cutV ((List.range ns.length).map fun i => V.int (echoI ns i)) (some 1) none)))
  have eb : (upd H2 s2 (.lst (cutV ((List.range ms.length).map fun i => V.int (echoI ms i)) (some 1) none))) s2 = some (.lst (((List.range ms.length).map fun i => V.int (echoI ms i)).drop 1)) := upd_same.trans (by rw [cut1 _ _ (by omega)])
  rw [cut1 _ _ h1] at ea
  have gA := g1'.trans g2'
  refine ⟨s1, s2, _, _, rfl, SqL.of ea, SqL.of eb, fun D hD => ?_⟩
  refine lcm_zip (fun i => V.bl (decide (echoI ns (i + 1) + echoI ms (i + 1) = 0))) (SqL.of ea) (SqL.of eb) (by rw [len1, len1, hl]) (by rw [len1]; omega) hD (fun i x y t H3 Qe hx hy g3 ht qe => ?_) (fun H3 g3 hl3 => ?_)
  · obtain ⟨hi, rfl⟩ := at1 _ _ _ _ hx
    obtain ⟨_, rfl⟩ := at1 _ _ _ _ hy
    refine ⟨t, _, rfl, SqT.of upd_same, rfl, _, _, rfl, _, _, rfl, rfl, rfl, ?_⟩
    refine ⟨_, rfl, _, rfl, _, _, rfl, rfl, rfl, ?_⟩
    rw [show decide (V.int (echoI ns (i + 1) + echoI ms (i + 1)) = V.int 0) = decide (echoI ns (i + 1) + echoI ms (i + 1) = 0) from decide_eq_decide.mpr ⟨fun h => V.int.inj h, fun h => by rw [h]⟩]
    exact qe _ (same_new ht _)
  · refine ⟨D, (List.range (ns.length - 1)).map fun i => decide (echoI ns (i + 1) + echoI ms (i + 1) = 0), rfl, SqL.of (by rw [hl3, len1, List.map_map]; rfl), ?_⟩
    exact q _ (gA.trans g3)
/-! ### outer_sum -/
def spOuter : Sp := fun vs H Q _ => ∃ (a : Addr) (ns : List Int) (k : Nat), vs = [.ref a, .int k] ∧ H a = some (.lst (ns.map V.int)) ∧ Bin ns ∧ ns.length ≤ 100 ∧ k ≤ ns.length ∧ ∀ H', Same H H' → Q (.int (echoI ns k)) H'
abbrev nOuter : List Str := ["word", "step", "at"]
theorem scOuter : FnScope nOuter ["word", "step"] (defScope sOuter) := ⟨rfl, rfl, rfl, by decide +kernel, rfl, by decide +kernel, by decide +kernel⟩
theorem ok_outer (T : Tb mg) (F : Fun K "outer_sum" "outer_sum" sOuter f fd) : FnOk P w K mg base CX0 1 f fd ["word", "step"] spOuter := by
  refine F.ok scOuter (fun vs H Q E h => ?_) (fun cdv A outer s H vs Q E hr h => ?_)
  · obtain ⟨a, ns, k, rfl, _⟩ := h
    rfl
  obtain ⟨a, ns, k, rfl, ha, hb, hn, hk, q⟩ := h
  have zz : (100 : Nat) ≤ sizeLine := by decide
  refine ⟨_, (pss_one (ps_ret (pe_callB (cr_sum rfl) (by rfl) T.sum (by decide +kernel) (pa_cons (pe_lc (own := [("at", 2)]) (g := gName 2) (tt := tYes) (by rfl) scOuter.nd (pi_range1 (by rfl) T.range (pa_cons (pe_op op_sub (pe_callB call_len_seq (by rfl) T.len PySem.boot_len (pa_cons (pv 0) pa_nil)) (pv 1)) pa_nil)) (blkOk_by (own := [("at", 2)]) (N := nOuter) (sc := defScope sOuter) (by decide +kernel)) (fun _ _ _ _ _ => (pg_name (i := 2) scOuter.nd rfl (Or.inl rfl))) (fun _ _ _ _ _ => pts_nil) (fun _ _ _ _ _ => (pe_op op_mul (pe_ix (r := rIxL K) ix_list (pv 0) (pv 2) (fun _ _ => rfl)) (pe_ix (r := rIxL K) ix_list (pv 0) (pe_op op_add (pv 2) (pv 1)) (fun _ _ => rfl))))) pa_nil)))), ?_⟩
  refine ⟨_, rfl, a, _, rfl, .inl (SqL.of ha), _, rfl, _, _, rfl, rfl, ((ns.length - k : Nat) : Int), congrArg (fun z => [V.int z]) (by rw [List.length_map]; omega), by omega, by omega, fun D hD => ?_⟩
  refine lcm_range (n := ns.length - k) (fun i => V.int (ns.getD i 0 * ns.getD (i + k) 0)) (by omega) hD (fun i H2 Qe hi g2 qe => ?_) (fun H2 g2 hl => ?_)
  · rw [show (0 : Int) + (i : Int) = (i : Int) from Int.zero_add _]
    have b1 := bin_at hb i
    exact ⟨rfl, _, rfl, _, rfl, a, _, _, _, rfl, rfl, SqL.of (g2 _ _ ha), atI_nat (int_at (by omega)), _, rfl, _, rfl, _, rfl, _, _, rfl, rfl, a, _, _, _, rfl, rfl, SqL.of (g2 _ _ ha), at_of (j := i + k) (by omega) (int_at (by omega)), _, _, rfl, rfl, .inl ⟨by omega, by omega⟩, qe _ (Same.refl _)⟩
  · refine ⟨D, (List.range (ns.length - k)).map fun i => ns.getD i 0 * ns.getD (i + k) 0, rfl, SqL.of (by rw [hl, List.map_map]; rfl), ?_⟩
    exact q _ g2
/-! ### fillings -/
abbrev nFill : List Str := ["length", "depth", "signs", "one", "places", "found", "two", "three", "four"]
theorem scFill : FnScope nFill ["length", "depth"] (defScope sFill) := ⟨rfl, rfl, rfl, by decide +kernel, rfl, by decide +kernel, by decide +kernel⟩
def signsI : List Int := [1, -1]
structure Fil where
  a : Int
  b : Int
  c : Int
  e : Int
def fil3 (a b c : Int) : List Fil := signsI.map fun e => ⟨a, b, c, e⟩
def fil2 (a b : Int) : List Fil := signsI.flatMap (fil3 a b)
def fil1 (a : Int) : List Fil := signsI.flatMap (fil2 a)
def fillsI : List Fil := signsI.flatMap fil1
def FilAt (n d : Nat) (H : Hp) (t : Addr) (u : Fil) : Prop := ∃ p1 p2 p3, H t = some (.tup [.ref p1, .ref p2, .ref p3]) ∧ H p1 = some (.tup [.int d, .int ((n - 1 - d : Nat) : Int)]) ∧ H p2 = some (.tup [.int u.a, .int u.b]) ∧ H p3 = some (.tup [.int u.c, .int u.e])
def spFill : Sp := fun vs H Q _ => ∃ n d : Nat, vs = [.int n, .int d] ∧ n % 2 = 0 ∧ d < n ∧ n ≤ 100 ∧ ∀ (ts : List Addr) (p : Addr) (H' : Hp), Same H H' → H p = none → H' p = some (.lst (ts.map V.ref)) → Paired (FilAt n d H') ts fillsI → Q (.ref p) H'
theorem ok_fill (T : Tb mg) (F : Fun K "fillings" "fillings" sFill f fd) : FnOk P w K mg base CX0 1 f fd ["length", "depth"] spFill := by
  refine F.ok scFill (fun vs H Q E h => ?_) (fun cdv A outer s H vs Q E hr h => ?_)
  · obtain ⟨n, d, rfl, _⟩ := h
    rfl
  obtain ⟨n, d, rfl, h2, hd, hn, q⟩ := h
  refine ⟨_, (pss_cons (ps_set (i := 2) scFill.nd rfl (Or.inr rfl) (pe_tup (pa_cons pe_int (pa_cons (pe_un un_neg pe_int) pa_nil)))) (pss_cons (ps_if (pt_cmpR op_eq (pe_op op_mul pe_int (pv 1)) (pe_op op_sub (pv 0) pe_int) (nomark _)) pss_never pss_nil) (pss_cons (ps_asg (pe_tup (pa_cons (pe_tup (pa_cons (pv 1) (pa_cons (pe_op op_sub (pe_op op_sub (pv 0) pe_int) (pv 1)) pa_nil))) (pa_cons (pe_lst pa_nil) pa_nil))) (pg_tup rfl (pgs_cons (pg_name (i := 4) scFill.nd rfl (Or.inr rfl)) (pgs_cons (pg_name (i := 5) scFill.nd rfl (Or.inl rfl)) pgs_nil)))) (pss_cons (ps_for PassesOwn.never rfl (pi_tup (pv 2)) (pg_name (i := 3) scFill.nd rfl (Or.inr rfl)) (pss_one (ps_for PassesOwn.never rfl (pi_tup (pv 2)) (pg_name (i := 6) scFill.nd rfl (Or.inr rfl)) (pss_one (ps_for PassesOwn.never rfl (pi_tup (pv 2)) (pg_name (i := 7) scFill.nd rfl (Or.inr rfl)) (pss_one (ps_set (i := 5) scFill.nd rfl (Or.inl rfl) (pe_op op_cat (pv 5) (pe_lc (own := [("four", 8)]) (g := gName 8) (tt := tYes) (by rfl) scFill.nd (pi_tup (pv 2)) (blkOk_by (own := [("four", 8)]) (N := nFill) (sc := defScope sFill) (by decide +kernel)) (fun _ _ _ _ _ => (pg_name (i := 8) scFill.nd rfl (Or.inl rfl))) (fun _ _ _ _ _ => pts_nil) (fun _ _ _ _ _ => (pe_tup (pa_cons (pv 4) (pa_cons (pe_tup (pa_cons (pv 3) (pa_cons (pv 6) pa_nil))) (pa_cons (pe_tup (pa_cons (pv 7) (pa_cons (pv 8) pa_nil))) pa_nil)))))))))))))) (pss_one (ps_ret (pv 5))))))), ?_⟩
  have zz : (100 : Nat) ≤ sizeLine := by decide
  refine ⟨_, rfl, (show 2 ≤ sizeLine by decide), fun sg hsg => ?_⟩
  have g0 := same_new hsg (.tup [V.int 1, V.int (-1)])
  have e0 : (upd H sg (.tup [V.int 1, V.int (-1)])) sg = some (.tup (signsI.map V.int)) := upd_same
  generalize upd H sg (.tup [V.int 1, V.int (-1)]) = H1 at g0 e0 ⊢
  refine ⟨_, rfl, _, _, rfl, rfl, .inl ⟨by omega, by omega⟩, _, rfl, _, _, rfl, rfl, rfl, _, rfl, ?_⟩
  rw [show decide (V.int (2 * (d : Int)) = V.int ((n : Int) - 1)) = false from decide_eq_false (fun h => by have := V.int.inj h; omega)]
  refine iteF ?_
  refine ⟨_, rfl, _, rfl, _, _, rfl, rfl, _, rfl, _, _, rfl, rfl, (show 2 ≤ sizeLine by decide), fun pl hpl => ⟨by decide, fun f0 hf0 => ⟨(show 2 ≤ sizeLine by decide), fun tt htt => ?_⟩⟩⟩
  have ga := same_new hpl (.tup [V.int d, V.int ((n : Int) - 1 - (d : Int))])
  have ea : (upd H1 pl (.tup [V.int d, V.int ((n : Int) - 1 - (d : Int))])) pl = some (.tup [.int d, .int ((n - 1 - d : Nat) : Int)]) := by
    rw [upd_same, show ((n : Int) - 1 - (d : Int)) = ((n - 1 - d : Nat) : Int) by omega]
  generalize upd H1 pl (.tup [V.int d, V.int ((n : Int) - 1 - (d : Int))]) = H2 at ga ea hf0 htt ⊢
  have gb := same_new hf0 (.lst [])
  have eb := upd_same (H := H2) (a := f0) (o := .lst [])
  generalize upd H2 f0 (.lst []) = H3 at gb eb htt ⊢
  have gc := same_new htt (.tup [V.ref pl, V.ref f0])
  have ec := upd_same (H := H3) (a := tt) (o := .tup [V.ref pl, V.ref f0])
  generalize upd H3 tt (.tup [V.ref pl, V.ref f0]) = Hb at gc ec ⊢
  have gA := g0.trans (ga.trans (gb.trans gc))
  have hsg2 : Hb sg = some (.tup (signsI.map V.int)) := (ga.trans (gb.trans gc)) _ _ e0
  have hpl2 := (gb.trans gc) _ _ ea
  have hf2 := gc _ _ eb
  have hfn := (g0.trans ga).free hf0
  refine ⟨tt, _, rfl, SqT.of ec, rfl, _, _, rfl, _, _, rfl, rfl, ?_⟩
  have sat : ∀ {i : Nat} {x : V}, (signsI.map V.int)[i]? = some x → ∃ a, signsI[i]? = some a ∧ x = V.int a := fun {i x} h => by
    rw [List.getElem?_map] at h
    obtain ⟨a, h1, h2⟩ := Option.map_eq_some_iff.mp h
    exact ⟨a, h1, h2.symm⟩
  have s2 : ∀ {i : Nat} {a : Int}, signsI[i]? = some a → i < 2 := fun {i a} h => (List.getElem?_eq_some_iff.mp h).1
  have fsame : ∀ {H1 H2 : Hp} {fs : List Addr} {us : List Fil}, Same H1 H2 → Paired (FilAt n d H1) fs us → Paired (FilAt n d H2) fs us := fun {H1 H2 fs us} g h =>
    pa_imp (fun t u ⟨p1, p2, p3, a1, a2, a3, a4⟩ => ⟨p1, p2, p3, g _ _ a1, g _ _ a2, g _ _ a3, g _ _ a4⟩) h
  refine ⟨_, rfl, sg, rfl, ⟨_, SqT.of hsg2⟩, ?_⟩
  refine for_tup (xs := signsI.map V.int) (fun i σ H1 => ∃ F fs x3 x6 x7, σ = [some (.int n), some (.int d), some (.ref sg), x3, some (.ref pl), some (.ref F), x6, x7, none] ∧ Same Hb H1 ∧ H F = none ∧ H1 F = some (.lst (fs.map V.ref)) ∧ Paired (FilAt n d H1) fs ((signsI.take i).flatMap fil1) ∧ fs.length ≤ 8 * i)
    ⟨f0, [], _, _, _, rfl, Same.refl _, hfn, hf2, .nil, Nat.zero_le _⟩ (fun i σ H1 hi p => ?_) (fun i x σ H1 hx p => ?_) (fun σ H1 p => ?_)
  · obtain ⟨F, fs, x3, x6, x7, rfl, g1, _⟩ := p
    exact SqT.of (g1 _ _ hsg2)
  · obtain ⟨F, fs, x3, x6, x7, rfl, g1, nF, hF, hfs, hfl⟩ := p
    obtain ⟨a, ha, rfl⟩ := sat hx
    have i2 := s2 ha
    refine ⟨_, rfl, sg, rfl, ⟨_, SqT.of (g1 _ _ hsg2)⟩, ?_⟩
    refine for_tup (xs := signsI.map V.int) (fun j σ H1 => ∃ F fs x6 x7, σ = [some (.int n), some (.int d), some (.ref sg), some (.int a), some (.ref pl), some (.ref F), x6, x7, none] ∧ Same Hb H1 ∧ H F = none ∧ H1 F = some (.lst (fs.map V.ref)) ∧
        Paired (FilAt n d H1) fs ((signsI.take i).flatMap fil1 ++ (signsI.take j).flatMap (fil2 a)) ∧ fs.length ≤ 8 * i + 4 * j)
      ⟨F, fs, _, _, rfl, g1, nF, hF, by simpa using hfs, hfl⟩ (fun j σ H1 hj p => ?_) (fun j x σ H1 hx p => ?_) (fun σ H1 p => ?_)
    · obtain ⟨F, fs, x6, x7, rfl, g1, _⟩ := p
      exact SqT.of (g1 _ _ hsg2)
    · obtain ⟨F, fs, x6, x7, rfl, g1, nF, hF, hfs, hfl⟩ := p
      obtain ⟨b, hb, rfl⟩ := sat hx
      have j2 := s2 hb
      refine ⟨_, rfl, sg, rfl, ⟨_, SqT.of (g1 _ _ hsg2)⟩, ?_⟩
      refine for_tup (xs := signsI.map V.int) (fun k σ H1 => ∃ F fs x7, σ = [some (.int n), some (.int d), some (.ref sg), some (.int a), some (.ref pl), some (.ref F), some (.int b), x7, none] ∧ Same Hb H1 ∧ H F = none ∧ H1 F = some (.lst (fs.map V.ref)) ∧
          Paired (FilAt n d H1) fs (((signsI.take i).flatMap fil1 ++ (signsI.take j).flatMap (fil2 a)) ++ (signsI.take k).flatMap (fil3 a b)) ∧ fs.length ≤ 8 * i + 4 * j + 2 * k)
        ⟨F, fs, _, rfl, g1, nF, hF, by simpa using hfs, hfl⟩ (fun k σ H1 hk p => ?_) (fun k x σ H1 hx p => ?_) (fun σ H1 p => ?_)
      · obtain ⟨F, fs, x7, rfl, g1, _⟩ := p
        exact SqT.of (g1 _ _ hsg2)
      · obtain ⟨F, fs, x7, rfl, g1, nF, hF, hfs, hfl⟩ := p
        obtain ⟨c, hc, rfl⟩ := sat hx
        have k2 := s2 hc
        refine ⟨_, rfl, _, rfl, sg, rfl, ⟨_, SqT.of (g1 _ _ hsg2)⟩, fun D hD => ?_⟩
        refine lcG (n := 2) (fun l H5 => Same H1 H5 ∧ ∃ cs, H5 D = some (.lst (cs.map V.ref)) ∧ Paired (FilAt n d H5) cs ((signsI.take l).map fun e => ⟨a, b, c, e⟩) ∧ cs.length = l) ⟨same_new hD _, [], upd_same, .nil, rfl⟩
          (fun l H5 hl p => ⟨_, _, SqT.of ((g1.trans p.1) _ _ hsg2), List.getElem?_eq_getElem hl⟩) (fun H5 p => ⟨_, SqT.of ((g1.trans p.1) _ _ hsg2), Nat.le_refl _⟩) (fun l v H5 H6 hl p y => ?_) (fun H5 p => ?_)
        · obtain ⟨g5, cs, hcs, hcn, hcl⟩ := p
          obtain ⟨rfl, ey⟩ := y
          obtain ⟨e, he, rfl⟩ := sat (ey _ (SqT.of ((g1.trans g5) _ _ hsg2)))
          refine ⟨rfl, tyesT ?_⟩
          refine ⟨_, rfl, _, rfl, _, rfl, (show 2 ≤ sizeLine by decide), fun p2 h2 => ⟨_, rfl, _, rfl, (show 2 ≤ sizeLine by decide), fun p3 h3 => ⟨(show 3 ≤ sizeLine by decide), fun t ht => ?_⟩⟩⟩
          have ga := same_new h2 (.tup [.int a, .int b])
          have gb := same_new h3 (.tup [.int c, .int e])
          have gc := same_new ht (.tup [.ref pl, .ref p2, .ref p3])
          have gd := ga.trans (gb.trans gc)
          have w1 := ((g1.trans g5).trans gd) _ _ hpl2
          have w2 := (gb.trans gc) _ _ (upd_same (H := H6) (a := p2) (o := .tup [.int a, .int b]))
          have w3 := gc _ _ (upd_same (H := upd H6 p2 (.tup [.int a, .int b])) (a := p3) (o := .tup [.int c, .int e]))
          have w4 := upd_same (H := upd (upd H6 p2 (.tup [.int a, .int b])) p3 (.tup [.int c, .int e])) (a := t) (o := .tup [.ref pl, .ref p2, .ref p3])
          refine ⟨_, gd _ _ hcs, by rw [List.length_map]; omega, ?_⟩
          generalize upd (upd (upd H6 p2 (.tup [.int a, .int b])) p3 (.tup [.int c, .int e])) t (.tup [.ref pl, .ref p2, .ref p3]) = Hd at gd w1 w2 w3 w4 ⊢
          have hDd := gd _ _ hcs
          have ne : ∀ (q : Addr) (xs : List V), Hd q = some (.tup xs) → (upd Hd D (.lst (cs.map V.ref ++ [V.ref t]))) q = some (.tup xs) := fun q xs h => by
            rw [upd_ne (ne_of h hDd (fun z => nomatch z))]
            exact h
          refine ⟨same_upd (g5.trans gd) hD _, cs ++ [t], by rw [upd_same, List.map_append]; rfl, ?_, by rw [List.length_append]; show _ + 1 = _; omega⟩
          rw [List.take_add_one, he, List.map_append]
          exact Paired.snoc (pa_imp (fun t u ⟨p1, p2, p3, a1, a2, a3, a4⟩ => ⟨p1, p2, p3, ne _ _ (gd _ _ a1), ne _ _ (gd _ _ a2), ne _ _ (gd _ _ a3), ne _ _ (gd _ _ a4)⟩) hcn) ⟨pl, p2, p3, ne _ _ w4, ne _ _ w1, ne _ _ w2, ne _ _ w3⟩
        · obtain ⟨g5, cs, hcs, hcn, hcl⟩ := p
          refine ⟨F, D, _, _, rfl, rfl, g5 _ _ hF, hcs, by rw [List.length_map, List.length_map]; omega, fun p hp => ?_⟩
          refine ⟨p, fs ++ cs, _, rfl, (g1.trans g5).trans (same_new hp _), (gA.trans (g1.trans g5)).free hp, by rw [upd_same, List.map_append], ?_, by rw [List.length_append]; omega⟩
          rw [take_fm (fil3 a b) hc, ← List.append_assoc]
          exact pa_app (fsame (g5.trans (same_new hp _)) hfs) (fsame (same_new hp _) hcn)
      · obtain ⟨F, fs, x7, rfl, g1, nF, hF, hfs, hfl⟩ := p
        refine ⟨F, fs, _, _, rfl, g1, nF, hF, ?_, hfl⟩
        rw [take_fm (fil2 a) hb, ← List.append_assoc]
        exact hfs
    · obtain ⟨F, fs, x6, x7, rfl, g1, nF, hF, hfs, hfl⟩ := p
      refine ⟨F, fs, _, _, _, rfl, g1, nF, hF, ?_, hfl⟩
      rw [take_fm fil1 ha]
      exact hfs
  · obtain ⟨F, fs, x3, x6, x7, rfl, g1, nF, hF, hfs, hfl⟩ := p
    exact ⟨_, rfl, q fs F H1 (gA.trans g1) nF hF hfs⟩
end
end Ek
namespace Ek
open PySem PySem.Spec L2
/-! ### the mathematics: pairs by their ends -/
abbrev PW2 := List Int × List Int
def sndS (n d : Nat) (p : PW2) (u : Fil) : List Int := (p.1.set d u.a).set (n - 1 - d) u.b
def sndR (n d : Nat) (p : PW2) (u : Fil) : List Int := (p.2.set d u.c).set (n - 1 - d) u.e
def candP (n d : Nat) (p : PW2) (u : Fil) : List PW2 :=
  if (sndS n d p u).getD 0 0 = 1 ∧ (sndR n d p u).getD 0 0 = 1 ∧ echoI (sndS n d p u) (n - 1 - d) + echoI (sndR n d p u) (n - 1 - d) = 0 then [(sndS n d p u, sndR n d p u)] else []
def stepP (n d : Nat) (p : PW2) : List PW2 := fillsI.flatMap (candP n d p)
def toldP (n : Nat) : Nat → List PW2
  | 0 => [(List.replicate n 0, List.replicate n 0)]
  | d + 1 => (toldP n d).flatMap (stepP n d)
def pairsP (n h : Nat) : List PW2 := (toldP n h).filter fun p => cancelB p.1 p.2
theorem bin_set {ns : List Int} {i : Nat} {a : Int} (h : Bin ns) (h1 : -1 ≤ a) (h2 : a ≤ 1) : Bin (ns.set i a) := fun x hx => by
  rcases List.mem_or_eq_of_mem_set hx with q | q
  · exact h x q
  · rw [q]; exact ⟨h1, h2⟩
def filOk (u : Fil) : Bool := decide (-1 ≤ u.a) && decide (u.a ≤ 1) && decide (-1 ≤ u.b) && decide (u.b ≤ 1) && decide (-1 ≤ u.c) && decide (u.c ≤ 1) && decide (-1 ≤ u.e) && decide (u.e ≤ 1)
theorem fil_all : fillsI.all filOk = true := by decide +kernel
theorem fil_ok {u : Fil} (h : u ∈ fillsI) : (-1 ≤ u.a ∧ u.a ≤ 1) ∧ (-1 ≤ u.b ∧ u.b ≤ 1) ∧ (-1 ≤ u.c ∧ u.c ≤ 1) ∧ (-1 ≤ u.e ∧ u.e ≤ 1) := by
  have q := List.all_eq_true.mp fil_all u h
  unfold filOk at q
  simp only [Bool.and_eq_true, decide_eq_true_eq] at q
  obtain ⟨⟨⟨⟨⟨⟨⟨h1, h2⟩, h3⟩, h4⟩, h5⟩, h6⟩, h7⟩, h8⟩ := q
  exact ⟨⟨h1, h2⟩, ⟨h3, h4⟩, ⟨h5, h6⟩, ⟨h7, h8⟩⟩
theorem fil_len : fillsI.length = 16 := by decide +kernel
/-! ### pairs on the heap: of lists, of tuples -/
structure PrOk (n : Nat) (p : PW2) : Prop where
  l1 : p.1.length = n
  l2 : p.2.length = n
  b1 : Bin p.1
  b2 : Bin p.2
def PrAt (n : Nat) (H : Hp) (t : Addr) (p : PW2) : Prop := PrOk n p ∧ ∃ l1 l2, H t = some (.tup [.ref l1, .ref l2]) ∧ H l1 = some (.lst (p.1.map V.int)) ∧ H l2 = some (.lst (p.2.map V.int))
def WwAt (n : Nat) (H : Hp) (t : Addr) (p : PW2) : Prop := PrOk n p ∧ ∃ l1 l2, H t = some (.tup [.ref l1, .ref l2]) ∧ H l1 = some (.tup (p.1.map V.int)) ∧ H l2 = some (.tup (p.2.map V.int))
theorem pr_ok {n d : Nat} {p : PW2} {u : Fil} (h : PrOk n p) (hu : u ∈ fillsI) : PrOk n (sndS n d p u, sndR n d p u) := by
  obtain ⟨a, b, c, e⟩ := fil_ok hu
  exact ⟨by show ((p.1.set d u.a).set (n - 1 - d) u.b).length = n; rw [List.length_set, List.length_set, h.l1], by show ((p.2.set d u.c).set (n - 1 - d) u.e).length = n; rw [List.length_set, List.length_set, h.l2],
    bin_set (bin_set h.b1 a.1 a.2) b.1 b.2, bin_set (bin_set h.b2 c.1 c.2) e.1 e.2⟩
theorem ne_lst {H : Hp} {a b : Addr} {ns : List Int} {ts : List Addr} (h : H a = some (.lst (ns.map V.int))) (hn : 1 ≤ ns.length) (h' : H b = some (.lst (ts.map V.ref))) : a ≠ b := by
  refine ne_of h h' fun e => ?_
  have e2 := HO.lst.inj e
  cases ns with
  | nil => simp at hn
  | cons n ns =>
    cases ts with
    | nil => cases e2
    | cons t ts =>
      have e3 := (List.cons.inj e2).1
      cases e3
theorem PrAt.same {n : Nat} {H H' : Hp} {t : Addr} {p : PW2} (h : PrAt n H t p) (g : Same H H') : PrAt n H' t p := by
  obtain ⟨k, l1, l2, a, b, c⟩ := h
  exact ⟨k, l1, l2, g _ _ a, g _ _ b, g _ _ c⟩
theorem WwAt.same {n : Nat} {H H' : Hp} {t : Addr} {p : PW2} (h : WwAt n H t p) (g : Same H H') : WwAt n H' t p := by
  obtain ⟨k, l1, l2, a, b, c⟩ := h
  exact ⟨k, l1, l2, g _ _ a, g _ _ b, g _ _ c⟩
theorem PrAt.upd {n : Nat} {H : Hp} {t M : Addr} {p : PW2} {bs : List Addr} {o : HO} (h : PrAt n H t p) (hn : 1 ≤ n) (hM : H M = some (.lst (bs.map V.ref))) : PrAt n (upd H M o) t p := by
  obtain ⟨k, l1, l2, a, b, c⟩ := h
  exact ⟨k, l1, l2, by rw [upd_ne (ne_of a hM (fun z => nomatch z))]; exact a, by rw [upd_ne (ne_lst b (by rw [k.l1]; exact hn) hM)]; exact b, by rw [upd_ne (ne_lst c (by rw [k.l2]; exact hn) hM)]; exact c⟩
theorem WwAt.upd {n : Nat} {H : Hp} {t M : Addr} {p : PW2} {xs : List V} {o : HO} (h : WwAt n H t p) (hM : H M = some (.lst xs)) : WwAt n (upd H M o) t p := by
  obtain ⟨k, l1, l2, a, b, c⟩ := h
  exact ⟨k, l1, l2, by rw [upd_ne (ne_of a hM (fun z => nomatch z))]; exact a, by rw [upd_ne (ne_of b hM (fun z => nomatch z))]; exact b, by rw [upd_ne (ne_of c hM (fun z => nomatch z))]; exact c⟩
theorem FilAt.upd {n d : Nat} {H : Hp} {t M : Addr} {u : Fil} {xs : List V} {o : HO} (h : FilAt n d H t u) (hM : H M = some (.lst xs)) : FilAt n d (upd H M o) t u := by
  obtain ⟨p1, p2, p3, a, b, c, e⟩ := h
  exact ⟨p1, p2, p3, by rw [upd_ne (ne_of a hM (fun z => nomatch z))]; exact a, by rw [upd_ne (ne_of b hM (fun z => nomatch z))]; exact b, by rw [upd_ne (ne_of c hM (fun z => nomatch z))]; exact c, by rw [upd_ne (ne_of e hM (fun z => nomatch z))]; exact e⟩
theorem FilAt.same {n d : Nat} {H H' : Hp} {t : Addr} {u : Fil} (h : FilAt n d H t u) (g : Same H H') : FilAt n d H' t u := by
  obtain ⟨p1, p2, p3, a, b, c, e⟩ := h
  exact ⟨p1, p2, p3, g _ _ a, g _ _ b, g _ _ c, g _ _ e⟩
def rTupQ (K : PySem.W.Frag) : List V → Hp → VK → Prop := fun xs H Q => ∃ p ys, xs = [.ref p] ∧ ((SqL K H p ys ∧ ∀ l, H l = none → Q (.ref l) (upd H l (.tup ys))) ∨ (SqT K H p ys ∧ Q (.ref p) H))
def spPairs : Sp := fun vs H Q _ => ∃ n h : Nat, vs = [.int n] ∧ n = 2 * h ∧ 1 ≤ h ∧ h ≤ 4 ∧ ∀ (ts : List Addr) (p : Addr) (H' : Hp), Same H H' → H' p = some (.lst (ts.map V.ref)) → (∀ t ∈ ts, ∃ q, WwAt n H' t q ∧ q ∈ pairsP n h) → Q (.ref p) H'
/-- what stands while the fillings are tried -/
structure Hp3 (n d i : Nat) (H' : Hp) (M pf : Addr) (fts : List Addr) (pre : List PW2) (p : PW2) (j : Nat) (bs : List Addr) (H : Hp) : Prop where
  g : Same H' H
  m : H M = some (.lst (bs.map V.ref))
  b : Paired (PrAt n H) bs (pre ++ (fillsI.take j).flatMap (candP n d p))
  l : bs.length ≤ 16 * i + j
  f : H pf = some (.lst (fts.map V.ref))
  u : Paired (FilAt n d H) fts fillsI
theorem Hp3.grow {n d i : Nat} {H' : Hp} {M pf : Addr} {fts : List Addr} {pre : List PW2} {p : PW2} {j : Nat} {bs : List Addr} {H H8 : Hp} {u : Fil} (h : Hp3 n d i H' M pf fts pre p j bs H) (g : Same H H8) (hu : fillsI[j]? = some u) (hc : candP n d p u = []) :
    Hp3 n d i H' M pf fts pre p (j + 1) bs H8 := by
  refine ⟨h.g.trans g, g _ _ h.m, ?_, Nat.le_succ_of_le h.l, g _ _ h.f, pa_imp (fun _ _ q => q.same g) h.u⟩
  rw [take_fm (candP n d p) hu, hc, List.append_nil]
  exact pa_imp (fun _ _ q => q.same g) h.b
theorem Hp3.app {n d i : Nat} {H' : Hp} {M pf : Addr} {fts : List Addr} {pre : List PW2} {p q : PW2} {j : Nat} {bs : List Addr} {H H8 : Hp} {u : Fil} {t : Addr} (h : Hp3 n d i H' M pf fts pre p j bs H) (g : Same H H8) (hu : fillsI[j]? = some u) (hc : candP n d p u = [q])
    (hn : 1 ≤ n) (hM : H' M = none) (ne : pf ≠ M) (ht : PrAt n H8 t q) : Hp3 n d i H' M pf fts pre p (j + 1) (bs ++ [t]) (upd H8 M (.lst (bs.map V.ref ++ [V.ref t]))) := by
  have hm8 := g _ _ h.m
  refine ⟨same_upd (h.g.trans g) hM _, by rw [upd_same, List.map_append]; rfl, ?_, by rw [List.length_append]; have := h.l; show _ + 1 ≤ _; omega, by rw [upd_ne ne]; exact g _ _ h.f, pa_imp (fun _ _ q => (q.same g).upd hm8) h.u⟩
  rw [take_fm (candP n d p) hu, hc, ← List.append_assoc]
  exact Paired.snoc (pa_imp (fun _ _ q => (q.same g).upd hn hm8) h.b) (ht.upd hn hm8)
def setS (n d : Nat) (p : PW2) (u : Fil) : Nat → List Int
  | 0 => p.1
  | 1 => p.1.set d u.a
  | _ => sndS n d p u
def setR (n d : Nat) (p : PW2) (u : Fil) : Nat → List Int
  | 0 => p.2
  | 1 => p.2.set d u.c
  | _ => sndR n d p u
theorem ixN_nat {n k : Nat} (h : k < n) : ixN n (k : Int) = some k := by
  unfold ixN
  rw [if_pos (by omega), if_pos (by omega), Int.toNat_natCast]
section
variable {P : Program} {w : World} {K : PySem.W.Frag} {mg : Str → Option Value} {base : Heap} {f : Addr} {fd : FuncData}
abbrev nPairs : List Str := ["length", "told", "depth", "more", "step", "one", "other", "places", "left", "right", "some", "rest", "place", "entry", "part", "found"]
theorem scPairs : FnScope nPairs ["length"] (defScope sPairs) := ⟨rfl, rfl, rfl, by decide +kernel, rfl, by decide +kernel, by decide +kernel⟩
theorem pow16 {d : Nat} (h : d ≤ 4) : 16 ^ d ≤ 65536 := Nat.pow_le_pow_right (by decide) h
theorem ok_pairs {gi gf go gc : Addr} {gid gfd god gcd : FuncData} (T : Tb mg) (F : Fun K "pairs" "pairs" sPairs f fd) (hM : ∃ t, mg "MOST_SEARCHED" = some (.int 10 t))
    (Gi : FnOk P w K mg base CX0 2 gi gid ["value", "least", "most"] spIsIn) (bi : Binds K gid ["value", "least", "most"] []) (ki : PySem.W.keepIn K (.ref gi) = true) (mi : mg "is_in" = some (.ref gi))
    (Gf : FnOk P w K mg base CX0 1 gf gfd ["length", "depth"] spFill) (bf : Binds K gfd ["length", "depth"] []) (kf : PySem.W.keepIn K (.ref gf) = true) (mf : mg "fillings" = some (.ref gf))
    (Go : FnOk P w K mg base CX0 1 go god ["word", "step"] spOuter) (bo : Binds K god ["word", "step"] []) (ko : PySem.W.keepIn K (.ref go) = true) (mo : mg "outer_sum" = some (.ref go))
    (Gc : FnOk P w K mg base CX0 3 gc gcd ["one", "other"] spCancel) (bc : Binds K gcd ["one", "other"] []) (kc : PySem.W.keepIn K (.ref gc) = true) (mc : mg "cancel" = some (.ref gc)) :
    FnOk P w K mg base CX0 4 f fd ["length"] spPairs := by
  refine F.ok scPairs (fun vs H Q E h => ?_) (fun cdv A outer s H vs Q E hr h => ?_)
  · obtain ⟨n, h, rfl, _⟩ := h
    rfl
  obtain ⟨n, h, rfl, hnh, h1, h4, q⟩ := h
  obtain ⟨tM, hM⟩ := hM
  have hr1 := hr.mono (j := 1) (by decide)
  have hr2 := hr.mono (j := 2) (by decide)
  refine ⟨_, (pss_cons (ps_if (pt_not (pt_val (pe_call Gi hr2 rfl mi ki bi .nil pass0 (pa_cons (pv 0) (pa_cons pe_int (pa_cons (pe_glob (v := .int 10) (by rfl) hM ⟨_, rfl⟩) pa_nil)))))) pss_never pss_nil) (pss_cons (ps_set (i := 1) scPairs.nd rfl (Or.inl rfl) (pe_lst (pa_cons (pe_tup (pa_cons (pe_op op_rep (pe_lst (pa_cons pe_int pa_nil)) (pv 0)) (pa_cons (pe_op op_rep (pe_lst (pa_cons pe_int pa_nil)) (pv 0)) pa_nil))) pa_nil))) (pss_cons (ps_for PassesOwn.never rfl (pi_range1 (by rfl) T.range (pa_cons (pe_op op_fdiv (pe_op op_add (pv 0) pe_int) pe_int) pa_nil)) (pg_name (i := 2) scPairs.nd rfl (Or.inl rfl)) (pss_cons (ps_par (i := 3) (j := 4) (by rfl) scPairs.nd rfl rfl (by decide) rfl rfl (pa_cons (pe_lst pa_nil) (pa_cons (pe_op op_sub (pe_op op_sub (pv 0) pe_int) (pv 2)) pa_nil)) (by rfl)) (pss_cons (ps_for PassesOwn.never rfl (pi_list (pv 1)) (pg_tup rfl (pgs_cons (pg_name (i := 5) scPairs.nd rfl (Or.inl rfl)) (pgs_cons (pg_name (i := 6) scPairs.nd rfl (Or.inl rfl)) pgs_nil))) (pss_one (ps_for PassesOwn.never rfl (pi_list (pe_call Gf hr1 rfl mf kf bf .nil pass0 (pa_cons (pv 0) (pa_cons (pv 2) pa_nil)))) (pg_tup rfl (pgs_cons (pg_name (i := 7) scPairs.nd rfl (Or.inl rfl)) (pgs_cons (pg_name (i := 8) scPairs.nd rfl (Or.inl rfl)) (pgs_cons (pg_name (i := 9) scPairs.nd rfl (Or.inl rfl)) pgs_nil)))) (pss_cons (ps_par (i := 10) (j := 11) (by rfl) scPairs.nd rfl rfl (by decide) rfl rfl (pa_cons (pe_callTy call_list_of (by rfl) T.list (by decide +kernel) (pa_cons (pv 5) pa_nil)) (pa_cons (pe_callTy call_list_of (by rfl) T.list (by decide +kernel) (pa_cons (pv 6) pa_nil)) pa_nil)) (by rfl)) (pss_cons (ps_for PassesOwn.never rfl (pi_zip3 (by rfl) T.zip (pa_cons (pv 7) (pa_cons (pv 8) (pa_cons (pv 9) pa_nil)))) (pg_tup rfl (pgs_cons (pg_name (i := 12) scPairs.nd rfl (Or.inl rfl)) (pgs_cons (pg_name (i := 13) scPairs.nd rfl (Or.inl rfl)) (pgs_cons (pg_name (i := 14) scPairs.nd rfl (Or.inl rfl)) pgs_nil)))) (pss_one (ps_asg (pe_tup (pa_cons (pv 13) (pa_cons (pv 14) pa_nil))) (pg_tup rfl (pgs_cons (pg_sub (pv 10) (pv 12) set_list) (pgs_cons (pg_sub (pv 11) (pv 12) set_list) pgs_nil)))))) (pss_one (ps_if (PW.pt (pw_and (pt_cmpR op_eq (pe_ix ix_list (pv 10) pe_int (fun _ _ => rfl)) pe_int (nomark _)) (pw_and (pt_cmpR op_eq (pe_ix ix_list (pv 11) pe_int (fun _ _ => rfl)) pe_int (nomark _)) (pw_and1 (PW.pt (pw_or (pt_cmpR op_eq (pv 4) pe_int (nomark _)) (pw_or1 (pt_cmpR op_eq (pe_op op_add (pe_call Go hr1 rfl mo ko bo .nil pass0 (pa_cons (pv 10) (pa_cons (pv 4) pa_nil))) (pe_call Go hr1 rfl mo ko bo .nil pass0 (pa_cons (pv 11) (pa_cons (pv 4) pa_nil)))) pe_int (nomark _))))))))) (pss_one (ps_expr (pe_bm PySem.F.plainAttrs_list PySem.F.slot_list_append PySem.F.type_list_append mt_append (pv 3) (pa_cons (pe_tup (pa_cons (pv 10) (pa_cons (pv 11) pa_nil))) pa_nil)))) pss_nil))))))) (pss_one (ps_set (i := 1) scPairs.nd rfl (Or.inl rfl) (pv 3)))))) (pss_cons (ps_setLc (i := 15) (own := [("one", 5), ("other", 6)]) (g := gTup K 2 (gCons (gName 5) (gCons (gName 6) (gNil)))) (tt := tYes) (by rfl) scPairs.nd rfl rfl (sw_true rfl rfl rfl (by decide +kernel)) (pi_list (pv 1)) (blkOk_by (own := [("one", 5), ("other", 6)]) (N := nPairs) (sc := defScope sPairs) (by decide +kernel)) (fun _ _ _ _ _ => (pg_tup rfl (pgs_cons (pg_name (i := 5) scPairs.nd rfl (Or.inl rfl)) (pgs_cons (pg_name (i := 6) scPairs.nd rfl (Or.inl rfl)) pgs_nil)))) (fun _ _ _ _ _ => pts_nil) (fun _ _ _ _ _ => (pe_tup (pa_cons (pe_callTy (r := rTupQ K) call_tuple_of (by rfl) T.tuple (by decide +kernel) (pa_cons (pv 5) pa_nil)) (pa_cons (pe_callTy (r := rTupQ K) call_tuple_of (by rfl) T.tuple (by decide +kernel) (pa_cons (pv 6) pa_nil)) pa_nil))))) (pss_one (ps_ret (pe_callB (cr_sortedWW (Nat.lt_of_le_of_lt (Nat.add_le_add_left (by decide : 4 ≤ 64) _) hr.units)) (by rfl) T.sorted (by decide +kernel) (pa_cons (pe_lc (own := [("told", 1)]) (g := gName 1) (tt := _) (by rfl) scPairs.nd (pi_list (pv 15)) (blkOk_by (own := [("told", 1)]) (N := nPairs) (sc := defScope sPairs) (by decide +kernel)) (fun _ _ _ _ _ => (pg_name (i := 1) scPairs.nd rfl (Or.inl rfl))) (fun _ _ _ _ _ => (pts_one (pt_val (pe_call Gc hr rfl mc kc bc .nil pass0 (pa_cons (pe_ix (r := rIxT K) ix_tup (pv 1) pe_int (fun _ _ => rfl)) (pa_cons (pe_ix (r := rIxT K) ix_tup (pv 1) pe_int (fun _ _ => rfl)) pa_nil)))))) (fun _ _ _ _ _ => (pv 1))) pa_nil)))))))), ?_⟩
  have zz : (100 : Nat) ≤ sizeLine := by decide
  have z16 : (2000000 : Nat) ≤ sizeLine := by decide
  refine ⟨_, rfl, (n : Int), 1, 10, rfl, by omega, by omega, true, rfl, iteF ?_⟩
  refine ⟨(show 1 ≤ sizeLine by decide), fun za hza => ?_⟩
  have ga := same_new hza (.lst [V.int 0])
  have ea := upd_same (H := H) (a := za) (o := .lst [V.int 0])
  generalize upd H za (.lst [V.int 0]) = Ha at ga ea ⊢
  have rep : ∀ m : Nat, (List.replicate m [V.int 0]).flatten = (List.replicate m (0 : Int)).map V.int := fun m => by
    induction m with
    | zero => rfl
    | succ m ih => rw [List.replicate_succ, List.flatten_cons, ih, List.replicate_succ]; rfl
  have nN : ((n : Int)).toNat = n := Int.toNat_natCast n
  refine ⟨_, rfl, za, _, _, rfl, rfl, ea, by omega, by omega, by rw [nN]; show 1 * n ≤ _; omega, fun l1 hl1 => ?_⟩
  have gb := same_new hl1 (.lst ((List.replicate n (0 : Int)).map V.int))
  have eb := upd_same (H := Ha) (a := l1) (o := .lst ((List.replicate n (0 : Int)).map V.int))
  rw [nN, rep]
  generalize upd Ha l1 (.lst ((List.replicate n (0 : Int)).map V.int)) = Hb at gb eb ⊢
  refine ⟨(show 1 ≤ sizeLine by decide), fun zc hzc => ?_⟩
  have gc := same_new hzc (.lst [V.int 0])
  have ec := upd_same (H := Hb) (a := zc) (o := .lst [V.int 0])
  generalize upd Hb zc (.lst [V.int 0]) = Hc at gc ec ⊢
  refine ⟨_, rfl, zc, _, _, rfl, rfl, ec, by omega, by omega, by rw [nN]; show 1 * n ≤ _; omega, fun l2 hl2 => ?_⟩
  have gd := same_new hl2 (.lst ((List.replicate n (0 : Int)).map V.int))
  have ed := upd_same (H := Hc) (a := l2) (o := .lst ((List.replicate n (0 : Int)).map V.int))
  rw [nN, rep]
  generalize upd Hc l2 (.lst ((List.replicate n (0 : Int)).map V.int)) = Hd at gd ed ⊢
  refine ⟨(show 2 ≤ sizeLine by decide), fun t0 ht0 => ?_⟩
  have ge := same_new ht0 (.tup [V.ref l1, V.ref l2])
  have ee := upd_same (H := Hd) (a := t0) (o := .tup [V.ref l1, V.ref l2])
  generalize upd Hd t0 (.tup [V.ref l1, V.ref l2]) = He at ge ee ⊢
  refine ⟨(show 1 ≤ sizeLine by decide), fun a0 ha0 => ?_⟩
  have gf := same_new ha0 (.lst [V.ref t0])
  have ef := upd_same (H := He) (a := a0) (o := .lst [V.ref t0])
  generalize upd He a0 (.lst [V.ref t0]) = Hf at gf ef ⊢
  have b0 : Bin (List.replicate n 0) := fun x hx => by rw [(List.mem_replicate.mp hx).2]; decide
  have p0 : PrAt n Hf t0 (List.replicate n 0, List.replicate n 0) := ⟨⟨List.length_replicate, List.length_replicate, b0, b0⟩, l1, l2, gf _ _ ee, (gc.trans (gd.trans (ge.trans gf))) _ _ eb, (ge.trans gf) _ _ ed⟩
  have gA := ga.trans (gb.trans (gc.trans (gd.trans (ge.trans gf))))
  have e2 : ((n : Int) + 1) / 2 = ((h : Nat) : Int) := by omega
  refine ⟨_, rfl, _, _, rfl, rfl, _, _, rfl, rfl, ⟨by decide, by decide⟩, ((h : Nat) : Int), congrArg (fun z => [V.int z]) e2, by omega, by omega, ?_⟩
  refine for_range (n := h) (fun d σ H' => (∃ a ts, Same H H' ∧ H' a = some (.lst (ts.map V.ref)) ∧ Paired (PrAt n H') ts (toldP n d) ∧ ts.length ≤ 16 ^ d ∧
      ∃ x2 x3 x4 x5 x6 x7 x8 x9 x10 x11 x12 x13 x14, σ = [some (.int n), some (.ref a), x2, x3, x4, x5, x6, x7, x8, x9, x10, x11, x12, x13, x14, none]))
    ⟨a0, [t0], gA, ef, .cons p0 .nil, Nat.le_refl 1, _, _, _, _, _, _, _, _, _, _, _, _, _, rfl⟩ (fun d σ H' hdh p => ?_) (fun σ H' p => ?_)
  · obtain ⟨a, ts, g1, ha, ht, htl, x2, x3, x4, x5, x6, x7, x8, x9, x10, x11, x12, x13, x14, rfl⟩ := p
    rw [show (0 : Int) + (d : Int) = (d : Int) from Int.zero_add _]
    have p16 := pow16 (d := d) (by omega)
    refine ⟨by decide, fun M hM => ⟨_, rfl, _, _, rfl, rfl, _, rfl, _, _, rfl, rfl, _, _, rfl, ?_⟩⟩
    have ek : ((n : Int) - 1 - (d : Int)) = ((n - 1 - d : Nat) : Int) := by omega
    refine ⟨_, rfl, a, rfl, ⟨_, SqL.of (same_new hM _ _ _ ha)⟩, ?_⟩
    refine for_list (xs := ts.map V.ref) (fun i σ H2 => (∃ bs, Same H' H2 ∧ H2 M = some (.lst (bs.map V.ref)) ∧ Paired (PrAt n H2) bs (((toldP n d).take i).flatMap (stepP n d)) ∧ bs.length ≤ 16 * i ∧
        ∃ x5 x6 x7 x8 x9 x10 x11 x12 x13 x14, σ = [some (.int n), some (.ref a), some (.int d), some (.ref M), some (.int ((n : Int) - 1 - (d : Int))), x5, x6, x7, x8, x9, x10, x11, x12, x13, x14, none]))
      ⟨[], same_new hM _, upd_same, .nil, Nat.zero_le _, _, _, _, _, _, _, _, _, _, _, rfl⟩ (fun i σ H2 hi p => ?_) (fun i v σ H2 hv p => ?_) (fun σ H2 p => ?_)
    · obtain ⟨bs, g2, _⟩ := p
      exact g2.seq (SqL.of ha)
    · obtain ⟨bs, g2, hM2, hbs, hbl, x5, x6, x7, x8, x9, x10, x11, x12, x13, x14, rfl⟩ := p
      rw [List.getElem?_map] at hv
      obtain ⟨t, htt, rfl⟩ := Option.map_eq_some_iff.mp hv
      obtain ⟨p, hp, hpk, la, lb, et, ela, elb⟩ := pa_get ht htt
      have hi : i < ts.length := (List.getElem?_eq_some_iff.mp htt).1
      refine ⟨t, _, rfl, SqT.of (g2 _ _ et), rfl, _, _, rfl, _, _, rfl, rfl, ?_⟩
      refine ⟨_, rfl, _, rfl, n, d, rfl, by omega, by omega, by omega, fun fts pf H3 g3 npf hpf hfl => ?_⟩
      have nepf : pf ≠ M := (ne_of_none hM2 npf).symm
      refine ⟨pf, rfl, ⟨_, SqL.of hpf⟩, ?_⟩
      refine for_list (xs := fts.map V.ref) (fun j σ H4 => (∃ bs, Hp3 n d i H' M pf fts (((toldP n d).take i).flatMap (stepP n d)) p j bs H4 ∧
          ∃ x7 x8 x9 x10 x11 x12 x13 x14, σ = [some (.int n), some (.ref a), some (.int d), some (.ref M), some (.int ((n : Int) - 1 - (d : Int))), some (.ref la), some (.ref lb), x7, x8, x9, x10, x11, x12, x13, x14, none]))
        ⟨bs, ⟨g2.trans g3, g3 _ _ hM2, by simpa using pa_imp (fun _ _ q => PrAt.same q g3) hbs, by omega, hpf, hfl⟩, _, _, _, _, _, _, _, _, rfl⟩ (fun j σ H4 hj p => ?_) (fun j v σ H4 hv p => ?_) (fun σ H4 p => ?_)
      · obtain ⟨bs, h3, _⟩ := p
        exact SqL.of h3.f
      · obtain ⟨bs, h3, x7, x8, x9, x10, x11, x12, x13, x14, rfl⟩ := p
        rw [List.getElem?_map] at hv
        obtain ⟨tf, htf, rfl⟩ := Option.map_eq_some_iff.mp hv
        obtain ⟨u, hu, p1, p2, p3, ef, ep1, ep2, ep3⟩ := pa_get h3.u htf
        have hum := List.mem_of_getElem? hu
        have hj16 : j < 16 := by
          have := (List.getElem?_eq_some_iff.mp hu).1
          rw [fil_len] at this
          exact this
        refine ⟨tf, _, rfl, SqT.of ef, rfl, _, _, rfl, _, _, rfl, _, _, rfl, rfl, ?_⟩
        refine ⟨_, rfl, la, _, rfl, .inl (SqL.of (h3.g _ _ ela)), fun S hS => ?_⟩
        have gS := same_new hS (.lst (p.1.map V.int))
        refine ⟨_, rfl, lb, _, rfl, .inl (SqL.of ((h3.g.trans gS) _ _ elb)), fun R hR => ⟨_, _, rfl, ?_⟩⟩
        have hSR : S ≠ R := ne_of_none upd_same hR
        have gR := same_new hR (.lst (p.2.map V.int))
        have hRn : H4 R = none := gS.free hR
        have eS := gR _ _ (upd_same (H := H4) (a := S) (o := .lst (p.1.map V.int)))
        have eR := upd_same (H := upd H4 S (.lst (p.1.map V.int))) (a := R) (o := .lst (p.2.map V.int))
        have g6 := gS.trans gR
        have hSn : H4 S = none := hS
        generalize upd (upd H4 S (.lst (p.1.map V.int))) R (.lst (p.2.map V.int)) = H6 at g6 eS eR ⊢
        refine ⟨_, rfl, _, rfl, _, rfl, p1, p2, p3, _, _, _, rfl, SqT.of (g6 _ _ ep1), SqT.of (g6 _ _ ep2), SqT.of (g6 _ _ ep3), ?_⟩
        refine for_zip3 (xs := [.int d, .int ((n - 1 - d : Nat) : Int)]) (ys := [.int u.a, .int u.b]) (zs := [.int u.c, .int u.e]) rfl rfl (fun k σ H7 => (Same H4 H7 ∧ H7 S = some (.lst ((setS n d p u k).map V.int)) ∧ H7 R = some (.lst ((setR n d p u k).map V.int))) ∧
            ∃ x12 x13 x14, σ = [some (.int n), some (.ref a), some (.int d), some (.ref M), some (.int ((n : Int) - 1 - (d : Int))), some (.ref la), some (.ref lb), some (.ref p1), some (.ref p2), some (.ref p3), some (.ref S), some (.ref R), x12, x13, x14, none])
          ⟨⟨g6, eS, eR⟩, _, _, _, rfl⟩ (fun k σ H7 p => ⟨SqT.of (p.1.1 _ _ ep1), SqT.of (p.1.1 _ _ ep2), SqT.of (p.1.1 _ _ ep3)⟩) (fun k x y z Tz σ H7 hx hy hz pz hTz => ?_) (fun σ H7 pz => ?_)
        · obtain ⟨⟨g7, hS7, hR7⟩, x12, x13, x14, rfl⟩ := pz
          rcases k with _ | _ | k
          · cases hx
            cases hy
            cases hz
            refine ⟨Tz, _, rfl, SqT.of upd_same, rfl, _, _, rfl, _, _, rfl, _, _, rfl, rfl, ?_⟩
            refine ⟨_, rfl, _, rfl, (show 2 ≤ sizeLine by decide), fun t2 ht2 => ?_⟩
            have gz := (same_new hTz (.tup [V.int d, V.int u.a, V.int u.c])).trans (same_new ht2 (.tup [V.int u.a, V.int u.c]))
            have hS8 := gz _ _ hS7
            have hR8 := gz _ _ hR7
            refine ⟨t2, _, rfl, SqT.of upd_same, rfl, _, _, rfl, _, rfl, _, rfl, S, _, _, d, rfl, rfl, hS8, ixN_nat (by rw [List.length_map]; show d < p.1.length; rw [hpk.l1]; omega), _, _, rfl, _, rfl, _, rfl, R, _, _, d, rfl, rfl, by rw [upd_ne hSR.symm]; exact hR8, ixN_nat (by rw [List.length_map]; show d < p.2.length; rw [hpk.l2]; omega), rfl, ?_⟩
            refine ⟨⟨same_upd (same_upd (g7.trans gz) hSn _) hRn _, ?_, ?_⟩, _, _, _, rfl⟩
            · rw [upd_ne hSR, upd_same, ← List.map_set]
              rfl
            · rw [upd_same, ← List.map_set]
              rfl
          · cases hx
            cases hy
            cases hz
            refine ⟨Tz, _, rfl, SqT.of upd_same, rfl, _, _, rfl, _, _, rfl, _, _, rfl, rfl, ?_⟩
            refine ⟨_, rfl, _, rfl, (show 2 ≤ sizeLine by decide), fun t2 ht2 => ?_⟩
            have gz := (same_new hTz (.tup [V.int ((n - 1 - d : Nat) : Int), V.int u.b, V.int u.e])).trans (same_new ht2 (.tup [V.int u.b, V.int u.e]))
            have hS8 := gz _ _ hS7
            have hR8 := gz _ _ hR7
            refine ⟨t2, _, rfl, SqT.of upd_same, rfl, _, _, rfl, _, rfl, _, rfl, S, _, _, (n - 1 - d), rfl, rfl, hS8, ixN_nat (by rw [List.length_map]; show n - 1 - d < (p.1.set d u.a).length; rw [List.length_set, hpk.l1]; omega), _, _, rfl, _, rfl, _, rfl, R, _, _, (n - 1 - d), rfl, rfl, by rw [upd_ne hSR.symm]; exact hR8, ixN_nat (by rw [List.length_map]; show n - 1 - d < (p.2.set d u.c).length; rw [List.length_set, hpk.l2]; omega), rfl, ?_⟩
            refine ⟨⟨same_upd (same_upd (g7.trans gz) hSn _) hRn _, ?_, ?_⟩, _, _, _, rfl⟩
            · rw [upd_ne hSR, upd_same, ← List.map_set]
              rfl
            · rw [upd_same, ← List.map_set]
              rfl
          · simp at hx
        · obtain ⟨⟨g7, hS7, hR7⟩, x12, x13, x14, rfl⟩ := pz
          have hS7 : H7 S = some (.lst ((sndS n d p u).map V.int)) := hS7
          have hR7 : H7 R = some (.lst ((sndR n d p u).map V.int)) := hR7
          have kk := pr_ok (d := d) hpk hum
          have lS : (sndS n d p u).length = n := kk.l1
          have lR : (sndR n d p u).length = n := kk.l2
          have bS : Bin (sndS n d p u) := kk.b1
          have bR : Bin (sndR n d p u) := kk.b2
          have no : ∀ H8, Same H7 H8 → ¬ ((sndS n d p u).getD 0 0 = 1 ∧ (sndR n d p u).getD 0 0 = 1 ∧ echoI (sndS n d p u) (n - 1 - d) + echoI (sndR n d p u) (n - 1 - d) = 0) → Hp3 n d i H' M pf fts (((toldP n d).take i).flatMap (stepP n d)) p (j + 1) bs H8 := fun H8 g8 nc =>
            h3.grow (g7.trans g8) hu (by unfold candP; rw [if_neg nc])
          refine ⟨_, rfl, S, _, _, _, rfl, rfl, SqL.of hS7, atI_nat (j := 0) (int_at (by omega)), rfl, _, rfl, ?_⟩
          by_cases c0 : (sndS n d p u).getD 0 0 = 1
          · rw [decide_eq_true (congrArg V.int c0)]
            refine iteT ⟨_, rfl, R, _, _, _, rfl, rfl, SqL.of hR7, atI_nat (j := 0) (int_at (by omega)), rfl, _, rfl, ?_⟩
            by_cases c1 : (sndR n d p u).getD 0 0 = 1
            · rw [decide_eq_true (congrArg V.int c1)]
              refine iteT ⟨_, rfl, rfl, _, rfl, ?_⟩
              rw [decide_eq_false (show ¬ V.int ((n : Int) - 1 - (d : Int)) = V.int 0 from fun e => by have := V.int.inj e; omega)]
              refine iteF ⟨_, rfl, _, rfl, S, _, n - 1 - d, by rw [← ek]; rfl, hS7, bS, by omega, by omega, fun H8 g8 => ?_⟩
              refine ⟨_, rfl, _, rfl, R, _, n - 1 - d, by rw [← ek]; rfl, g8 _ _ hR7, bR, by omega, by omega, fun H9 g9 => ?_⟩
              refine ⟨_, _, rfl, rfl, rfl, _, rfl, ?_⟩
              by_cases c2 : echoI (sndS n d p u) (n - 1 - d) + echoI (sndR n d p u) (n - 1 - d) = 0
              · rw [decide_eq_true (congrArg V.int c2)]
                have hM9 := (g7.trans (g8.trans g9)) _ _ h3.m
                refine iteT ⟨_, rfl, .inl ⟨rfl, _, SqL.of hM9⟩, _, rfl, _, rfl, (show 2 ≤ sizeLine by decide), fun tn htn => ?_⟩
                have gn := same_new htn (.tup [V.ref S, V.ref R])
                have en := upd_same (H := H9) (a := tn) (o := .tup [V.ref S, V.ref R])
                generalize upd H9 tn (.tup [V.ref S, V.ref R]) = Hn at gn en ⊢
                have l3 := h3.l
                refine ⟨M, _, _, rfl, rfl, gn _ _ hM9, by rw [List.length_map]; omega, bs ++ [tn], ?_, _, _, _, _, _, _, _, _, rfl⟩
                exact h3.app (q := (sndS n d p u, sndR n d p u)) (g7.trans (g8.trans (g9.trans gn))) hu (by unfold candP; rw [if_pos ⟨c0, c1, c2⟩]) (by omega) hM nepf ⟨kk, S, R, en, (g8.trans (g9.trans gn)) _ _ hS7, (g8.trans (g9.trans gn)) _ _ hR7⟩
              · rw [decide_eq_false (show ¬ V.int (echoI (sndS n d p u) (n - 1 - d) + echoI (sndR n d p u) (n - 1 - d)) = V.int 0 from fun e => c2 (V.int.inj e))]
                exact iteF ⟨bs, no H9 (g8.trans g9) (fun c => c2 c.2.2), _, _, _, _, _, _, _, _, rfl⟩
            · rw [decide_eq_false (show ¬ V.int ((sndR n d p u).getD 0 0) = V.int 1 from fun e => c1 (V.int.inj e))]
              exact iteF (iteF ⟨bs, no H7 (Same.refl _) (fun c => c1 c.2.1), _, _, _, _, _, _, _, _, rfl⟩)
          · rw [decide_eq_false (show ¬ V.int ((sndS n d p u).getD 0 0) = V.int 1 from fun e => c0 (V.int.inj e))]
            exact iteF (iteF ⟨bs, no H7 (Same.refl _) (fun c => c0 c.1), _, _, _, _, _, _, _, _, rfl⟩)
      · obtain ⟨bs, h3, x7, x8, x9, x10, x11, x12, x13, x14, rfl⟩ := p
        have lf := pa_len h3.u
        rw [fil_len] at lf
        refine ⟨bs, h3.g, h3.m, ?_, ?_, _, _, _, _, _, _, _, _, _, _, rfl⟩
        · have hb := h3.b
          rw [List.length_map, pa_len h3.u, List.take_length] at hb
          rw [take_fm (stepP n d) hp]
          exact hb
        · have := h3.l
          rw [List.length_map] at this
          omega
    · obtain ⟨bs, g2, hM2, hbs, hbl, x5, x6, x7, x8, x9, x10, x11, x12, x13, x14, rfl⟩ := p
      rw [List.length_map] at hbl
      refine ⟨_, rfl, M, bs, g1.trans g2, hM2, ?_, ?_, _, _, _, _, _, _, _, _, _, _, _, _, _, rfl⟩
      · rw [List.length_map, pa_len ht, List.take_length] at hbs
        exact hbs
      · rw [Nat.pow_succ]
        omega
  · obtain ⟨a, ts, g1, ha, ht, htl, x2, x3, x4, x5, x6, x7, x8, x9, x10, x11, x12, x13, x14, rfl⟩ := p
    have p16 := pow16 (d := h) (by omega)
    have tl := pa_len ht
    refine ⟨_, rfl, a, rfl, ⟨_, SqL.of ha⟩, fun D hD => ?_⟩
    refine lcG (n := ts.length) (fun i H3 => Same H' H3 ∧ ∃ cs, H3 D = some (.lst (cs.map V.ref)) ∧ Paired (WwAt n H3) cs ((toldP n h).take i) ∧ cs.length = i) ⟨same_new hD _, [], upd_same, .nil, rfl⟩
      (fun i H3 hi p => ⟨_, _, (p.1).seq (SqL.of ha), List.getElem?_eq_getElem (by rw [List.length_map]; exact hi)⟩) (fun H3 p => ⟨_, (p.1).seq (SqL.of ha), by rw [List.length_map]; exact Nat.le_refl _⟩) (fun i x H3 H4 hi p y => ?_) (fun H3 p => ?_)
    · obtain ⟨g3, cs, hcs, hcn, hcl⟩ := p
      obtain ⟨rfl, ey⟩ := y
      have ex := ey _ (g3.seq (SqL.of ha))
      rw [List.getElem?_map, List.getElem?_eq_getElem hi] at ex
      obtain rfl := (Option.some.inj ex).symm
      obtain ⟨p, hp, hpk, la, lb, et, ela, elb⟩ := pa_get ht (List.getElem?_eq_getElem hi)
      generalize ts[i] = t at et
      refine ⟨t, _, rfl, SqT.of (g3 _ _ et), rfl, _, _, rfl, _, _, rfl, rfl, rfl, tyesT ?_⟩
      refine ⟨_, rfl, la, _, rfl, .inl ⟨SqL.of (g3 _ _ ela), fun t1 h1 => ?_⟩⟩
      have k1 := same_new h1 (.tup (p.1.map V.int))
      have e1 := upd_same (H := H4) (a := t1) (o := .tup (p.1.map V.int))
      generalize upd H4 t1 (.tup (p.1.map V.int)) = H5 at k1 e1 ⊢
      refine ⟨_, rfl, lb, _, rfl, .inl ⟨SqL.of ((g3.trans k1) _ _ elb), fun t2 h2 => ?_⟩⟩
      have k2 := same_new h2 (.tup (p.2.map V.int))
      have e2 := upd_same (H := H5) (a := t2) (o := .tup (p.2.map V.int))
      generalize upd H5 t2 (.tup (p.2.map V.int)) = H6 at k2 e2 ⊢
      refine ⟨(show 2 ≤ sizeLine by decide), fun t3 h3 => ?_⟩
      have k3 := same_new h3 (.tup [V.ref t1, V.ref t2])
      have e3 := upd_same (H := H6) (a := t3) (o := .tup [V.ref t1, V.ref t2])
      generalize upd H6 t3 (.tup [V.ref t1, V.ref t2]) = H7 at k3 e3 ⊢
      have kk := k1.trans (k2.trans k3)
      have hD7 := kk _ _ hcs
      refine ⟨_, hD7, by rw [List.length_map]; omega, same_upd (g3.trans kk) hD _, cs ++ [t3], by rw [upd_same, List.map_append]; rfl, ?_, by rw [List.length_append]; show _ + 1 = _; omega⟩
      rw [List.take_add_one, hp]
      exact Paired.snoc (pa_imp (fun _ _ q => (WwAt.same q kk).upd hD7) hcn) (WwAt.upd ⟨hpk, t1, t2, e3, (k2.trans k3) _ _ e1, k3 _ _ e2⟩ hD7)
    · obtain ⟨g3, cs, hcs, hcn, hcl⟩ := p
      rw [tl, List.take_length] at hcn
      have hcl2 := pa_len hcn
      refine ⟨_, rfl, D, rfl, ⟨_, SqL.of hcs⟩, fun D2 hD2 => ?_⟩
      refine lcG (n := cs.length) (fun i H4 => Same H3 H4 ∧ ∃ bs, H4 D2 = some (.lst (bs.map V.ref)) ∧ Paired (WwAt n H4) bs (((toldP n h).take i).filter fun p => cancelB p.1 p.2) ∧ bs.length ≤ i) ⟨same_new hD2 _, [], upd_same, .nil, Nat.le_refl _⟩
        (fun i H4 hi p => ⟨_, _, (p.1).seq (SqL.of hcs), List.getElem?_eq_getElem (by rw [List.length_map]; exact hi)⟩) (fun H4 p => ⟨_, (p.1).seq (SqL.of hcs), by rw [List.length_map]; exact Nat.le_refl _⟩) (fun i x H4 H5 hi p y => ?_) (fun H4 p => ?_)
      · obtain ⟨g4, bs, hbs, hbn, hbl⟩ := p
        obtain ⟨rfl, ey⟩ := y
        have ex := ey _ (g4.seq (SqL.of hcs))
        rw [List.getElem?_map, List.getElem?_eq_getElem hi] at ex
        obtain rfl := (Option.some.inj ex).symm
        obtain ⟨p, hp, hw⟩ := pa_get hcn (List.getElem?_eq_getElem hi)
        obtain ⟨hpk, la, lb, et, ela, elb⟩ := WwAt.same hw g4
        generalize cs[i] = t at et hw
        refine ⟨rfl, ?_⟩
        refine ⟨_, rfl, t, _, _, _, rfl, rfl, SqT.of et, atI_nat (j := 0) rfl, _, rfl, t, _, _, _, rfl, rfl, SqT.of et, atI_nat (j := 1) rfl, la, lb, p.1, p.2, rfl, ela, elb, hpk.b1, hpk.b2, by rw [hpk.l1, hpk.l2], by rw [hpk.l1]; omega, by rw [hpk.l1]; omega, fun H6 g6 => ?_⟩
        have hD6 := g6 _ _ hbs
        refine ⟨_, rfl, ?_⟩
        cases hcB : cancelB p.1 p.2 with
        | true =>
          refine iteT ⟨_, rfl, _, hD6, by rw [List.length_map]; omega, same_upd (g4.trans g6) hD2 _, bs ++ [t], by rw [upd_same, List.map_append]; rfl, ?_, by rw [List.length_append]; show _ + 1 ≤ _; omega⟩
          rw [List.take_add_one, hp, List.filter_append]
          have e : (some p).toList.filter (fun p => cancelB p.1 p.2) = [p] := by show [p].filter _ = _; rw [List.filter_cons, if_pos hcB]; rfl
          rw [e]
          exact Paired.snoc (pa_imp (fun _ _ q => (WwAt.same q g6).upd hD6) hbn) ((WwAt.same hw (g4.trans g6)).upd hD6)
        | false =>
          refine iteF ⟨g4.trans g6, bs, hD6, ?_, by omega⟩
          rw [List.take_add_one, hp, List.filter_append]
          have e : (some p).toList.filter (fun p => cancelB p.1 p.2) = [] := by show [p].filter _ = _; rw [List.filter_cons, if_neg (by rw [hcB]; decide)]; rfl
          rw [e, List.append_nil]
          exact pa_imp (fun _ _ q => WwAt.same q g6) hbn
      · obtain ⟨g4, bs, hbs, hbn, hbl⟩ := p
        rw [hcl2, List.take_length] at hbn
        refine ⟨D2, bs, n, rfl, hbs, fun t ht => ?_, fun ts' p hpm hp => ?_⟩
        · obtain ⟨k, hk⟩ := List.mem_iff_getElem?.mp ht
          obtain ⟨p, hp, ⟨hpk, la, lb, et, ela, elb⟩⟩ := pa_get hbn hk
          exact ⟨la, lb, p.1, p.2, et, ela, elb, hpk.l1, hpk.l2⟩
        · refine q ts' p _ ((g1.trans (g3.trans g4)).trans (same_new hp _)) upd_same fun t ht => ?_
          obtain ⟨k, hk⟩ := List.mem_iff_getElem?.mp (hpm.mem_iff.mp ht)
          obtain ⟨p', hp', hw⟩ := pa_get hbn hk
          exact ⟨p', hw.same (same_new hp _), List.mem_of_getElem? hp'⟩
end
end Ek
namespace Ek
/-! ### the law's own words; both lists hold the same -/
def linesB (m n : Nat) : List Nat := (List.range m).map fun a => n / 2 ^ a % 2
def famB (m : Nat) (o : List Nat) (n : Nat) : List (List Int) := [wordN o (linesB m n) m (n / 2 ^ m)]
def famsB (m : Nat) (o : List Nat) : List (List Int) := (List.range (2 ^ (m + 1))).flatMap (famB m o)
def keysB (m : Nat) : List (List Int) := ((ordersN m).flatMap (famsB m)).foldl putW []
theorem mem_putW {ks : List (List Int)} {k x : List Int} : x ∈ putW ks k ↔ x ∈ ks ∨ x = k := by
  unfold putW
  split
  · rename_i h
    refine ⟨.inl, fun q => ?_⟩
    rcases q with q | q
    · exact q
    · rw [q]; exact h
  · rw [List.mem_append, List.mem_singleton]
theorem mem_fold : ∀ (l : List (List Int)) (ks : List (List Int)) (x : List Int), x ∈ l.foldl putW ks ↔ x ∈ ks ∨ x ∈ l
  | [], ks, x => by simp
  | k :: l, ks, x => by
    rw [List.foldl_cons, mem_fold l, mem_putW, List.mem_cons, or_assoc]
theorem nodup_putW {ks : List (List Int)} {k : List Int} (h : ks.Nodup) : (putW ks k).Nodup := by
  unfold putW
  split
  · exact h
  · rename_i hk
    refine List.nodup_append.mpr ⟨h, List.pairwise_singleton _ _, fun a ha b hb => ?_⟩
    rw [List.mem_singleton] at hb
    intro e
    rw [e, hb] at ha
    exact hk ha
theorem nodup_fold : ∀ (l : List (List Int)) (ks : List (List Int)), ks.Nodup → (l.foldl putW ks).Nodup
  | [], _, h => h
  | k :: l, _, h => nodup_fold l _ (nodup_putW h)
/-- whatever lines and constant the one asks for, the other one asks for -/
def thereAB (m : Nat) : Bool := (List.range (2 ^ m)).all fun n => (List.range 2).all fun c => (List.range (2 ^ (m + 1))).any fun k => decide (linesB m k = bitsN m n) && decide (k / 2 ^ m = c)
def thereBA (m : Nat) : Bool := (List.range (2 ^ (m + 1))).all fun k => (List.range (2 ^ m)).any fun n => decide (linesB m k = bitsN m n) && decide (k / 2 ^ m < 2)
theorem therAB : ∀ {m : Nat}, m ≤ 4 → thereAB m = true
  | 0, _ => by decide +kernel
  | 1, _ => by decide +kernel
  | 2, _ => by decide +kernel
  | 3, _ => by decide +kernel
  | 4, _ => by decide +kernel
  | n + 5, h => by omega
theorem therBA : ∀ {m : Nat}, m ≤ 4 → thereBA m = true
  | 0, _ => by decide +kernel
  | 1, _ => by decide +kernel
  | 2, _ => by decide +kernel
  | 3, _ => by decide +kernel
  | 4, _ => by decide +kernel
  | n + 5, h => by omega
theorem mem_AB {m : Nat} (h : m ≤ 4) {o : List Nat} {x : List Int} (hx : x ∈ famsA m o) : x ∈ famsB m o := by
  obtain ⟨n, hn, h2⟩ := List.mem_flatMap.mp hx
  have key : ∀ c, c < 2 → x = wordN o (bitsN m n) m c → x ∈ famsB m o := fun c hc e => by
    have q := List.all_eq_true.mp (List.all_eq_true.mp (therAB h) n hn) c (List.mem_range.mpr hc)
    obtain ⟨k, hk, e2⟩ := List.any_eq_true.mp q
    rw [Bool.and_eq_true, decide_eq_true_eq, decide_eq_true_eq] at e2
    refine List.mem_flatMap.mpr ⟨k, hk, ?_⟩
    unfold famB
    rw [e2.1, e2.2, e]
    exact List.mem_singleton_self _
  rcases List.mem_cons.mp h2 with e | h2
  · exact key 0 (by decide) e
  · exact key 1 (by decide) (List.mem_singleton.mp h2)
theorem mem_BA {m : Nat} (h : m ≤ 4) {o : List Nat} {x : List Int} (hx : x ∈ famsB m o) : x ∈ famsA m o := by
  obtain ⟨k, hk, h2⟩ := List.mem_flatMap.mp hx
  have e := List.mem_singleton.mp h2
  have q := List.all_eq_true.mp (therBA h) k hk
  obtain ⟨n, hn, e2⟩ := List.any_eq_true.mp q
  rw [Bool.and_eq_true, decide_eq_true_eq, decide_eq_true_eq] at e2
  refine List.mem_flatMap.mpr ⟨n, hn, ?_⟩
  rw [e2.1] at e
  unfold famA
  rw [e]
  generalize k / 2 ^ m = c at e2
  rcases c with _ | _ | c
  · exact List.mem_cons_self
  · exact List.mem_cons_of_mem _ (List.mem_singleton_self _)
  · omega
theorem keys_mem {m : Nat} (h : m ≤ 4) (x : List Int) : x ∈ keysA m ↔ x ∈ keysB m := by
  unfold keysA keysB
  rw [mem_fold, mem_fold]
  constructor
  · rintro (q | q)
    · cases q
    · obtain ⟨o, ho, h2⟩ := List.mem_flatMap.mp q
      exact .inr (List.mem_flatMap.mpr ⟨o, ho, mem_AB h h2⟩)
  · rintro (q | q)
    · cases q
    · obtain ⟨o, ho, h2⟩ := List.mem_flatMap.mp q
      exact .inr (List.mem_flatMap.mpr ⟨o, ho, mem_BA h h2⟩)
theorem keys_perm {m : Nat} (h : m ≤ 4) : (keysA m).Perm (keysB m) :=
  (List.perm_ext_iff_of_nodup (nodup_fold _ _ List.nodup_nil) (nodup_fold _ _ List.nodup_nil)).mpr fun x => keys_mem h x
theorem srt_uniq : ∀ {l m : List (List Int)}, l.Perm m → l.Pairwise (fun x y => HT.lexLt y x = false) → m.Pairwise (fun x y => HT.lexLt y x = false) → l = m
  | [], m, h, _, _ => (List.Perm.eq_nil h.symm).symm
  | x :: l, [], h, _, _ => absurd h.length_eq (by simp)
  | x :: l, y :: m, h, hl, hm => by
    obtain ⟨l1, l2⟩ := List.pairwise_cons.mp hl
    obtain ⟨m1, m2⟩ := List.pairwise_cons.mp hm
    have e : x = y := by
      rcases List.mem_cons.mp (h.mem_iff.mp (List.mem_cons_self (a := x) (l := l))) with e | hx
      · exact e
      · rcases List.mem_cons.mp (h.mem_iff.mpr (List.mem_cons_self (a := y) (l := m))) with e | hy
        · exact e.symm
        · exact lex_anti x y (m1 x hx) (l1 y hy)
    subst e
    rw [srt_uniq h.cons_inv l2 m2]
/-! ### how many they are; the pairs are among them: reckoned by the kernel -/
theorem count1 : (keysA 1).length = 4 := by decide +kernel
theorem count2 : (keysA 2).length = 8 := by decide +kernel
theorem count3 : (keysA 3).length = 48 := by decide +kernel
theorem count4 : (keysA 4).length = 384 := by decide +kernel
theorem counts : ∀ {m : Nat}, 1 ≤ m → m ≤ 4 → ((keysA m).length : Int) = ([4, 8, 48, 384] : List Int).getD (m - 1) 0
  | 1, _, _ => by rw [count1]; rfl
  | 2, _, _ => by rw [count2]; rfl
  | 3, _, _ => by rw [count3]; rfl
  | 4, _, _ => by rw [count4]; rfl
  | 0, h, _ => by omega
  | n + 5, _, h => by omega
def pairsIn (m n h : Nat) : Bool := (pairsP n h).all fun q => decide (q.1 ∈ keysA m) && decide (q.2 ∈ keysA m)
theorem pairs1 : pairsIn 1 2 1 = true := by decide +kernel
theorem pairs2 : pairsIn 2 4 2 = true := by decide +kernel
theorem pairs3 : pairsIn 3 8 4 = true := by decide +kernel
theorem pairs_all : ∀ {m : Nat}, 1 ≤ m → m ≤ 3 → pairsIn m (2 ^ m) (2 ^ (m - 1)) = true
  | 1, _, _ => pairs1
  | 2, _, _ => pairs2
  | 3, _, _ => pairs3
  | 0, h, _ => by omega
  | n + 4, _, h => by omega
theorem pairs_mem {m : Nat} (h1 : 1 ≤ m) (h3 : m ≤ 3) {q : PW2} (hq : q ∈ pairsP (2 ^ m) (2 ^ (m - 1))) : q.1 ∈ keysB m ∧ q.2 ∈ keysB m := by
  have z := List.all_eq_true.mp (pairs_all h1 h3) q hq
  rw [Bool.and_eq_true, decide_eq_true_eq, decide_eq_true_eq] at z
  exact ⟨(keys_mem (by omega) _).mp z.1, (keys_mem (by omega) _).mp z.2⟩
theorem keysB_len (m : Nat) : ∀ w ∈ keysB m, w.length = 2 ^ m := by
  refine fold_len _ (fun _ h => by cases h) fun w hw => ?_
  obtain ⟨o, _, h1⟩ := List.mem_flatMap.mp hw
  obtain ⟨n, _, h2⟩ := List.mem_flatMap.mp h1
  rw [List.mem_singleton.mp h2]
  exact wordN_len _ _ _ _
end Ek
namespace Ek
open PySem PySem.Spec L2
/-- all but one object stands as it stood -/
def Kb (d : Addr) (H H' : Hp) : Prop := ∀ b o, b ≠ d → H b = some o → H' b = some o
theorem Kb.same {d : Addr} {H H1 H2 : Hp} (k : Kb d H H1) (g : Same H1 H2) : Kb d H H2 := fun b o ne h => g _ _ (k b o ne h)
theorem Kb.upd {d : Addr} {H H1 : Hp} {o : HO} (k : Kb d H H1) : Kb d H (upd H1 d o) := fun b o' ne h => by rw [upd_ne ne]; exact k b o' ne h
theorem Kb.of {d : Addr} {H H' : Hp} (g : Same H H') : Kb d H H' := fun b o _ h => g _ _ h
theorem seq_kd {K : PySem.W.Frag} {H H' : Hp} {a d : Addr} {xs : List V} {kvs : List (List L2.Key × V)} (h : SqL K H a xs) (hd : H d = some (.dT kvs)) (k : Kb d H H') : SqL K H' a xs := by
  rcases h with (h | ⟨u, h⟩) | h
  · exact .inl (.inl (k _ _ (ne_of h hd (fun z => nomatch z)) h))
  · exact .inl (.inr ⟨u, k _ _ (ne_of h hd (fun z => nomatch z)) h⟩)
  · exact .inr h
theorem seq_kr {K : PySem.W.Frag} {H H' : Hp} {a r b : Addr} {ns : List Int} {l : List V} (h : SqL K H a (ns.map V.int)) (hr : H r = some (.lst (.ref b :: l))) (k : Kb r H H') : SqL K H' a (ns.map V.int) := by
  rcases h with (h | ⟨u, h⟩) | h
  · refine .inl (.inl (k _ _ (ne_of h hr fun e => ?_) h))
    have e2 := HO.lst.inj e
    cases ns with
    | nil => cases e2
    | cons n ns =>
      have e3 := (List.cons.inj e2).1
      cases e3
  · exact .inl (.inr ⟨u, k _ _ (ne_of h hr (fun z => nomatch z)) h⟩)
  · exact .inr h
theorem linesB_le (m n : Nat) : ∀ x ∈ linesB m n, x ≤ 1 := fun x h => by
  obtain ⟨a, _, rfl⟩ := List.mem_map.mp h
  omega
theorem linesB_len (m n : Nat) : (linesB m n).length = m := by unfold linesB; rw [List.length_map, List.length_range]
theorem val_there {kvs : List (List L2.Key × V)} {ks : List (List Int)} {w : List Int} (h : kvs.map (·.1) = ks.map wkey) (hw : w ∈ ks) : (valV kvs (wkey w)).isSome = true := by
  rw [← valV_any]
  have e1 : (kvs.any fun kv => decide (kv.1 = wkey w)) = ((kvs.map (·.1)).any fun x => decide (x = wkey w)) := by rw [List.any_map]; rfl
  rw [e1, h, List.any_map]
  exact List.any_eq_true.mpr ⟨w, hw, by simp⟩
def spLaw (K : PySem.W.Frag) : Sp := fun vs H Q _ => ∃ (a : Addr) (ns : List Int), vs = [.ref a] ∧ SqL K H a (ns.map V.int) ∧ ns.length ≤ 63 ∧ ∀ H', Q (.bl true) H'
section
variable {P : Program} {w : World} {K : PySem.W.Frag} {mg : Str → Option Value} {base : Heap} {f : Addr} {fd : FuncData}
abbrev nLaw : List Str := ["_law_script", "_law_row", "_law_many", "_law_due", "_law_order", "_law_number", "_law_lines", "_law_found", "_law_one", "_law_other", "_law_at"]
theorem scLaw : FnScope nLaw ["_law_script"] (defScope sLaw) := ⟨rfl, rfl, rfl, by decide +kernel, rfl, by decide +kernel, by decide +kernel⟩
theorem ok_law {gt go gs gw ga gp : Addr} {gtd god gsd gwd gad gpd : FuncData} (T : Tb mg) (F : Fun K "law" "law" sLaw f fd)
    (Gt : FnOk P w K mg base CX0 1 gt gtd ["_law_row", "_law_many"] (spTaken K)) (bt : Binds K gtd ["_law_row", "_law_many"] []) (kt : PySem.W.keepIn K (.ref gt) = true) (mt : mg "_law_taken" = some (.ref gt))
    (Go : FnOk P w K mg base CX0 1 go god ["_law_many"] spOrders) (bo : Binds K god ["_law_many"] []) (ko : PySem.W.keepIn K (.ref go) = true) (mo : mg "_law_orders" = some (.ref go))
    (Gs : FnOk P w K mg base CX0 1 gs gsd ["_law_order", "_law_lines", "_law_constant"] (spPath K)) (bs : Binds K gsd ["_law_order", "_law_lines", "_law_constant"] []) (ks : PySem.W.keepIn K (.ref gs) = true) (ms : mg "_law_standard" = some (.ref gs))
    (Gw : FnOk P w K mg base CX0 3 gw gwd ["many"] spStdWords) (bw : Binds K gwd ["many"] []) (kw : PySem.W.keepIn K (.ref gw) = true) (mw : mg "standard_words" = some (.ref gw))
    (Ga : FnOk P w K mg base CX0 3 ga gad ["_law_found", "_law_due"] spAlikeL) (ba : Binds K gad ["_law_found", "_law_due"] []) (ka : PySem.W.keepIn K (.ref ga) = true) (ma : mg "_law_alike" = some (.ref ga))
    (Gp : FnOk P w K mg base CX0 4 gp gpd ["length"] spPairs) (bp : Binds K gpd ["length"] []) (kp : PySem.W.keepIn K (.ref gp) = true) (mp : mg "pairs" = some (.ref gp)) :
    FnOk P w K mg base CX0 5 f fd ["_law_script"] (spLaw K) := by
  refine F.ok scLaw (fun vs H Q E h => ?_) (fun cdv A outer s H vs Q E hr h => ?_)
  · obtain ⟨a, ns, rfl, _⟩ := h
    rfl
  obtain ⟨a, ns, rfl, hS, hns, q⟩ := h
  have hr1 := hr.mono (j := 1) (by decide)
  have hr3 := hr.mono (j := 3) (by decide)
  refine ⟨_, (pss_cons (ps_set (i := 1) scLaw.nd rfl (Or.inl rfl) (pe_lst (pa_cons (pv 0) (pa_cons pe_int (pa_cons pe_int (pa_cons pe_int pa_nil)))))) (pss_cons (ps_par (i := 2) (j := 3) (by rfl) scLaw.nd rfl rfl (by decide) rfl rfl (pa_cons (pe_op op_add pe_int (pe_call Gt hr1 rfl mt kt bt .nil pass0 (pa_cons (pv 1) (pa_cons pe_int pa_nil)))) (pa_cons pe_dnewT pa_nil)) (by rfl)) (C8.pss_cut (ps_if (pt_cmpR op_eq (pe_call Gt hr1 rfl mt kt bt .nil pass0 (pa_cons (pv 1) (pa_cons pe_int pa_nil))) pe_int (nomark _)) (pss_one (ps_set (i := 2) scLaw.nd rfl (Or.inl rfl) pe_int)) pss_nil) (pss_cons (ps_for PassesOwn.never rfl (pi_list (pe_call Go hr1 rfl mo ko bo .nil pass0 (pa_cons (pv 2) pa_nil))) (pg_name (i := 4) scLaw.nd rfl (Or.inl rfl)) (pss_one (ps_for PassesOwn.never rfl (pi_range1 (by rfl) T.range (pa_cons (pe_op op_shl pe_int (pe_op op_add (pv 2) pe_int)) pa_nil)) (pg_name (i := 5) scLaw.nd rfl (Or.inr rfl)) (pss_cons (ps_setLc (i := 6) (own := [("_law_at", 10)]) (g := gName 10) (tt := tYes) (by rfl) scLaw.nd rfl rfl (sw_true rfl rfl rfl (by decide +kernel)) (pi_range1 (by rfl) T.range (pa_cons (pv 2) pa_nil)) (blkOk_by (own := [("_law_at", 10)]) (N := nLaw) (sc := defScope sLaw) (by decide +kernel)) (fun _ _ _ _ _ => (pg_name (i := 10) scLaw.nd rfl (Or.inl rfl))) (fun _ _ _ _ _ => pts_nil) (fun _ _ _ _ _ => (pe_op op_mod (pe_op op_fdiv (pv 5) (pe_op op_shl pe_int (pv 10))) pe_int))) (pss_one (ps_dput (hu_of hr) (pv 3) (pe_call Gs hr1 rfl ms ks bs .nil pass0 (pa_cons (pv 4) (pa_cons (pv 6) (pa_cons (pe_op op_fdiv (pv 5) (pe_op op_shl pe_int (pv 2))) pa_nil)))) pe_bl (by rfl))))))) (pss_cons (ps_set (i := 7) scLaw.nd rfl (Or.inl rfl) (pe_call Gw hr3 rfl mw kw bw .nil pass0 (pa_cons (pv 2) pa_nil))) (pss_cons (ps_if (PW.pt (pw_or (pt_not (pt_val (pe_call Ga hr3 rfl ma ka ba .nil pass0 (pa_cons (pv 7) (pa_cons (pe_callB (cr_sortedDW rfl) (by rfl) T.sorted (by decide +kernel) (pa_cons (pv 3) pa_nil)) pa_nil))))) (pw_or1 (pt_cmpR op_ne (pe_callB call_len_seq (by rfl) T.len PySem.boot_len (pa_cons (pv 7) pa_nil)) (pe_ix ix_list (pe_lst (pa_cons pe_int (pa_cons pe_int (pa_cons pe_int (pa_cons pe_int pa_nil))))) (pe_op op_sub (pv 2) pe_int) (fun _ _ => rfl)) (nomark _))))) pss_never pss_nil) (C8.pss_cut (ps_if (PW.pt (pw_or (pt_cmpR op_gt (pv 2) pe_int (nomark _)) (pw_or1 (PW.pt (pw_and (pt_cmpR op_eq (pv 2) pe_int (nomark _)) (pw_and1 (pt_cmpR op_gt (pe_call Gt hr1 rfl mt kt bt .nil pass0 (pa_cons (pv 1) (pa_cons pe_int pa_nil))) pe_int (nomark _)))))))) (pss_one (ps_ret pe_bl)) pss_nil) (pss_cons (ps_for PassesOwn.never rfl (pi_list (pe_call Gp hr rfl mp kp bp .nil pass0 (pa_cons (pe_op op_shl pe_int (pv 2)) pa_nil))) (pg_tup rfl (pgs_cons (pg_name (i := 8) scLaw.nd rfl (Or.inl rfl)) (pgs_cons (pg_name (i := 9) scLaw.nd rfl (Or.inl rfl)) pgs_nil))) (pss_one (ps_if (PW.pt (pw_or (pt_cmp (pc_dnotin (hu_of hr) (pv 8) (pv 3))) (pw_or1 (pt_cmp (pc_dnotin (hu_of hr) (pv 9) (pv 3)))))) pss_never pss_nil))) (pss_one (ps_ret pe_bl)))))))))), ?_⟩
  have zz : (100000 : Nat) ≤ sizeLine := by decide
  refine ⟨_, rfl, (show 4 ≤ sizeLine by decide), fun r hrn => ?_⟩
  have g0 := same_new hrn (.lst [V.ref a, V.int 0, V.int 3521, V.int 0])
  have er := upd_same (H := H) (a := r) (o := .lst [V.ref a, V.int 0, V.int 3521, V.int 0])
  generalize upd H r (.lst [V.ref a, V.int 0, V.int 3521, V.int 0]) = H1 at g0 er ⊢
  refine ⟨_, rfl, r, a, 3, 0, 3521, 0, ns, rfl, by decide, by decide, er, g0.seq hS, by decide, by decide, by decide, fun z H2 i2 x2 y2 z0 z3 kp2 er2 i20 x20 x21 => ?_⟩
  have hS2 := seq_kr (g0.seq hS) er kp2
  refine ⟨_, _, rfl, rfl, fun d hd => ⟨_, _, rfl, ?_⟩⟩
  have g3 := same_new hd (.dT [])
  have ed := upd_same (H := H2) (a := d) (o := .dT [])
  generalize upd H2 d (.dT []) = H3 at g3 ed ⊢
  have er3 := g3 _ _ er2
  refine ⟨fun σ H4 => ∃ (m : Nat) (i x y : Int), σ = [some (.ref a), some (.ref r), some (.int m), some (.ref d), none, none, none, none, none, none, none] ∧ 1 ≤ m ∧ m ≤ 4 ∧ H4 r = some (.lst [.ref a, .int i, .int x, .int y]) ∧ 0 ≤ i ∧ 0 ≤ x ∧ x < 2 ^ 31 ∧ SqL K H4 a (ns.map V.int) ∧ H4 d = some (.dT []), ?_, ?_⟩
  · refine ⟨_, rfl, r, a, 15, i2, x2, y2, ns, rfl, by decide, by decide, er3, g3.seq hS2, i20, x20, x21, fun z' H4 i4 x4 y4 z'0 z'1 kp4 er4 i40 x40 x41 => ?_⟩
    have hS4 := seq_kr (g3.seq hS2) er3 kp4
    have ed4 := kp4 _ _ (ne_of ed er3 (fun z => nomatch z)) ed
    refine ⟨rfl, _, rfl, ite2 (fun c => ?_) (fun c => ?_)⟩
    · exact ⟨4, i4, x4, y4, rfl, by decide, by decide, er4, i40, x40, x41, hS4, ed4⟩
    · have ez : (1 : Int) + z = (((1 + z).toNat : Nat) : Int) := by omega
      refine ⟨(1 + z).toNat, i4, x4, y4, ?_, by omega, by omega, er4, i40, x40, x41, hS4, ed4⟩
      rw [← ez]
      rfl
  rintro σ H4 ⟨m, i4, x4, y4', rfl, m1, m4, er4, i40, x40, x41, hS4, ed4⟩
  have p5 := pow4 (m := m + 1) (by omega)
  have nn : (0 : Int) ≤ ((2 ^ (m + 1) : Nat) : Int) := Int.natCast_nonneg _
  have nl : ((2 ^ (m + 1) : Nat) : Int) ≤ 32 := by exact_mod_cast p5
  have pm5 := pow4 (m := m) (by omega)
  have pmp : 0 < 2 ^ m := Nat.two_pow_pos _
  obtain ⟨hok, hol⟩ := ord_ok m4
  refine ⟨_, rfl, m, rfl, m4, fun ts p H5 g5 ht hp => ⟨p, rfl, ⟨_, SqL.of hp⟩, ?_⟩⟩
  have ed5 := g5 _ _ ed4
  have er5 := g5 _ _ er4
  have hS5 := g5.seq hS4
  have tl := pa_len ht
  refine for_list (xs := ts.map V.ref) (fun i σ H6 => ∃ kvs, Kb d H5 H6 ∧ H6 d = some (.dT kvs) ∧ kvs.map (·.1) = ((((ordersN m).take i).flatMap (famsB m)).foldl putW []).map wkey ∧ kvs.length ≤ i * 32 ∧
      ∃ x4 x5 x6, σ = [some (.ref a), some (.ref r), some (.int m), some (.ref d), x4, x5, x6, none, none, none, none])
    ⟨[], Kb.of (Same.refl _), ed5, rfl, Nat.zero_le _, _, _, _, rfl⟩ (fun i σ H6 hi p => ?_) (fun i v σ H6 hv p => ?_) (fun σ H6 p => ?_)
  · obtain ⟨kvs, k6, _⟩ := p
    exact SqL.of (k6 _ _ (ne_of hp ed5 (fun z => nomatch z)) hp)
  · obtain ⟨kvs, k6, ed6, hks, hkl, y4, y5, y6, rfl⟩ := p
    rw [List.getElem?_map] at hv
    obtain ⟨t, htt, rfl⟩ := Option.map_eq_some_iff.mp hv
    obtain ⟨o, ho, hto⟩ := pa_get ht htt
    obtain ⟨lo, hlo⟩ := hok o (List.mem_of_getElem? ho)
    have hi : i < ts.length := (List.getElem?_eq_some_iff.mp htt).1
    have nt : t ≠ d := ne_of hto ed5 (fun z => nomatch z)
    refine ⟨_, rfl, _, _, rfl, rfl, _, _, rfl, rfl, ⟨by omega, by omega, by decide⟩, ((2 ^ (m + 1) : Nat) : Int), congrArg (fun z => [V.int z]) (shl_one (m + 1)), by omega, by omega, ?_⟩
    refine for_range (n := 2 ^ (m + 1)) (fun j σ H7 => ∃ kvs, Kb d H5 H7 ∧ H7 d = some (.dT kvs) ∧ kvs.map (·.1) = ((((ordersN m).take i).flatMap (famsB m) ++ (List.range j).flatMap (famB m o)).foldl putW []).map wkey ∧ kvs.length ≤ i * 32 + j ∧
        ∃ x5 x6, σ = [some (.ref a), some (.ref r), some (.int m), some (.ref d), some (.ref t), x5, x6, none, none, none, none])
      ⟨kvs, k6, ed6, by simpa using hks, by omega, _, _, rfl⟩ (fun j σ H7 hj p => ?_) (fun σ H7 p => ?_)
    · obtain ⟨kvs, k7, ed7, hks, hkl, y5, y6, rfl⟩ := p
      rw [show (0 : Int) + (j : Int) = (j : Int) from Int.zero_add _]
      refine ⟨_, rfl, (m : Int), rfl, by omega, by omega, fun D hD => ?_⟩
      refine lcm_range (n := m) (fun b => V.int ((j / 2 ^ b % 2 : Nat) : Int)) (by omega) hD (fun b H8 Qe hb g8 qe => ?_) (fun H8 g8 hl8 => ?_)
      · rw [show (0 : Int) + (b : Int) = (b : Int) from Int.zero_add _]
        have pk := pow4 (m := b) (by omega)
        have pp : 0 < 2 ^ b := Nat.two_pow_pos _
        have ep := shl_one b
        refine ⟨rfl, _, rfl, _, rfl, _, _, rfl, rfl, ⟨by omega, by omega, by decide⟩, _, _, rfl, rfl, ⟨?_, ?_⟩, _, _, rfl, rfl, (show (0 : Int) < 2 by decide), ?_⟩
        · rw [ep]; exact_mod_cast pp
        · rw [ep]; exact Int.lt_of_le_of_lt (show ((2 ^ b : Nat) : Int) ≤ 32 by exact_mod_cast pk) (by decide)
        dsimp only
        rw [ep]
        have e : ((j : Int) / ((2 ^ b : Nat) : Int) % 2) = ((j / 2 ^ b % 2 : Nat) : Int) := by push_cast; rfl
        rw [e]
        exact qe _ (Same.refl _)
      · have hL : H8 D = some (.lst (ivs (linesB m j))) := by
          rw [hl8]
          unfold ivs linesB
          rw [List.map_map]
          rfl
        have ep := shl_one m
        refine ⟨_, rfl, _, rfl, _, rfl, _, rfl, _, rfl, _, _, rfl, rfl, ⟨by omega, by omega, by decide⟩, _, _, rfl, rfl, ⟨?_, ?_⟩, t, D, o, linesB m j, m, j / 2 ^ m, ?_, SqT.of ((k7.same g8) _ _ nt hto), SqL.of hL, lo, linesB_len m j, m1, by omega, linesB_le m j, hlo, fun p0 H9 g9 np0 hp0 => ?_⟩
        · rw [ep]; exact_mod_cast pmp
        · rw [ep]; exact Int.lt_of_le_of_lt (show ((2 ^ m : Nat) : Int) ≤ 32 by exact_mod_cast pm5) (by decide)
        · have e : ((j : Int) / (1 * 2 ^ ((m : Int)).toNat)) = ((j / 2 ^ m : Nat) : Int) := by rw [ep]; push_cast; rfl
          exact congrArg (fun z => [V.ref t, V.ref D, V.int z]) e
        have ed9 := g9 _ _ (g8 _ _ ed7)
        refine ⟨d, _, rfl, DPut.t (k := wkey (wordN o (linesB m j) m (j / 2 ^ m))) ed9 (by rw [wkey_kV]; exact hp0) (by omega), ?_⟩
        have k1 := keys_putK (v := .bl true) (k := wordN o (linesB m j) m (j / 2 ^ m)) hks
        have l1 := putK_le kvs (wkey (wordN o (linesB m j) m (j / 2 ^ m))) (.bl true)
        refine ⟨_, ((k7.same g8).same g9).upd, upd_same, ?_, by omega, _, _, rfl⟩
        rw [k1, range_fm, ← List.append_assoc]
        exact congrArg (List.map wkey) (List.foldl_append (f := putW) (b := []) (l' := famB m o j)).symm
    · obtain ⟨kvs, k7, ed7, hks, hkl, y5, y6, rfl⟩ := p
      refine ⟨kvs, k7, ed7, ?_, by omega, _, _, _, rfl⟩
      rw [take_fm (famsB m) ho]
      exact hks
  obtain ⟨kvs, k6, ed6, hks, hkl, y4, y5, y6, rfl⟩ := p
  rw [List.length_map, tl, List.take_length] at hks
  have er6 := k6 _ _ (ne_of er5 ed5 (fun z => nomatch z)) er5
  have hS6 := seq_kd hS5 ed5 k6
  refine ⟨_, rfl, m, rfl, m1, m4, fun ts1 ms1 p1 H7 g7 pm1 st1 pr1 hp1 => ?_⟩
  refine ⟨_, rfl, _, rfl, d, kvs, keysB m, 2 ^ m, rfl, g7 _ _ ed6, hks, Nat.one_le_two_pow, keysB_len m, fun ts2 ms2 p2 pm2 st2 pr2 np2 => ?_⟩
  have g8 := same_new np2 (.lst (ts2.map V.ref))
  have e8 := upd_same (H := H7) (a := p2) (o := .lst (ts2.map V.ref))
  have pr2' := pa_imp (fun _ _ z => g8 _ _ z) pr2
  generalize upd H7 p2 (.lst (ts2.map V.ref)) = H8 at g8 e8 pr2' ⊢
  have em : ms1 = ms2 := srt_uniq (pm1.trans ((keys_perm m4).trans pm2.symm)) st1 st2
  subst em
  have cnt := counts m1 m4
  have lk := pm1.length_eq
  have lt1 := pa_len pr1
  have c384 : ms1.length ≤ 1000 := by
    have : ∀ {m : Nat}, 1 ≤ m → m ≤ 4 → ([4, 8, 48, 384] : List Int).getD (m - 1) 0 ≤ 384 := fun {m} h1 h4 => by
      rcases m with _ | _ | _ | _ | _ | m
      · omega
      · decide
      · decide
      · decide
      · decide
      · omega
    have := this m1 m4
    omega
  have w32 : ∀ ms ∈ ms1, ms.length ≤ 1000 := fun ms hms => by
    have := keysA_len m ms (pm1.mem_iff.mp hms)
    omega
  refine ⟨p1, p2, ts1, ts2, ms1, rfl, g8 _ _ hp1, e8, pa_imp (fun _ _ z => g8 _ _ z) pr1, pr2', c384, w32, fun H9 g9 => ⟨true, rfl, iteF ?_⟩⟩
  refine ⟨_, rfl, p1, _, rfl, .inl (SqL.of (g9 _ _ (g8 _ _ hp1))), (show 4 ≤ sizeLine by decide), fun L hL => ?_⟩
  have g10 := same_new hL (.lst [V.int 4, V.int 8, V.int 48, V.int 384])
  have e10 := upd_same (H := H9) (a := L) (o := .lst [V.int 4, V.int 8, V.int 48, V.int 384])
  generalize upd H9 L (.lst [V.int 4, V.int 8, V.int 48, V.int 384]) = H10 at g10 e10 ⊢
  refine ⟨_, rfl, _, _, rfl, rfl, L, _, _, _, rfl, rfl, SqL.of e10, at_of (j := m - 1) (by omega) (int_at (ns := [4, 8, 48, 384]) (by show m - 1 < 4; omega)), rfl, _, rfl, iteNS ?_ ?_⟩
  · exact congrArg V.int (by rw [List.length_map, lt1, lk, cnt])
  have gA := g7.trans (g8.trans (g9.trans g10))
  have ed10 := gA _ _ ed6
  have er10 := gA _ _ er6
  have hS10 := gA.seq hS6
  refine ⟨fun σ H11 => m ≤ 3 ∧ σ = [some (.ref a), some (.ref r), some (.int m), some (.ref d), y4, y5, y6, some (.ref p1), none, none, none] ∧ H11 d = some (.dT kvs), ?_, ?_⟩
  · refine ⟨_, rfl, _, _, rfl, rfl, _, rfl, ite2 (fun c => iteT (q _)) (fun c => ?_)⟩
    have c' := of_decide_eq_false (Bool.eq_false_iff.mpr c)
    refine ⟨_, rfl, rfl, _, rfl, ite2 (fun c2 => ?_) (fun c2 => iteF ⟨by omega, rfl, ed10⟩)⟩
    refine ⟨_, rfl, r, a, 6, i4, x4, y4', ns, rfl, by decide, by decide, er10, hS10, i40, x40, x41, fun z' H12 i12 x12 y12 z'0 z'1 kp12 er12 i120 x120 x121 => ?_⟩
    refine ⟨_, _, rfl, rfl, _, rfl, ite2 (fun c3 => q _) (fun c3 => ⟨by omega, rfl, ?_⟩)⟩
    exact kp12 _ _ (ne_of ed10 er10 (fun z => nomatch z)) ed10
  rintro σ H11 ⟨m3, rfl, ed11⟩
  have e2m : 2 ^ m = 2 * 2 ^ (m - 1) := by
    rw [← Nat.pow_succ', show (m - 1).succ = m by omega]
  have h4 : 2 ^ (m - 1) ≤ 4 := Nat.pow_le_pow_right (n := 2) (j := 2) (by decide) (by omega)
  refine ⟨_, rfl, _, _, rfl, rfl, ⟨by omega, by omega, by decide⟩, 2 ^ m, 2 ^ (m - 1), congrArg (fun z => [V.int z]) (shl_one m), e2m, Nat.one_le_two_pow, h4, fun ts3 p3 H12 g12 hp3 hall => ⟨p3, rfl, ⟨_, SqL.of hp3⟩, ?_⟩⟩
  have ed12 := g12 _ _ ed11
  refine for_list (xs := ts3.map V.ref) (fun i σ H13 => H13 = H12 ∧ ∃ x8 x9, σ = [some (.ref a), some (.ref r), some (.int m), some (.ref d), y4, y5, y6, some (.ref p1), x8, x9, none])
    ⟨rfl, _, _, rfl⟩ (fun i σ H13 hi p => by rw [p.1]; exact SqL.of hp3) (fun i v σ H13 hv p => ?_) (fun σ H13 p => ?_)
  · obtain ⟨rfl, x8, x9, rfl⟩ := p
    rw [List.getElem?_map] at hv
    obtain ⟨t, htt, rfl⟩ := Option.map_eq_some_iff.mp hv
    obtain ⟨qq, ⟨_, t1, t2, et, e1, e2⟩, hqq⟩ := hall t (List.mem_of_getElem? htt)
    obtain ⟨q1, q2⟩ := pairs_mem m1 m3 hqq
    refine ⟨t, _, rfl, SqT.of et, rfl, _, _, rfl, _, _, rfl, rfl, ?_⟩
    refine ⟨_, rfl, _, rfl, d, _, rfl, DGet.t (k := wkey qq.1) ed12 (by rw [wkey_kV]; exact e1), _, rfl, ?_⟩
    rw [val_there hks q1]
    refine iteF ⟨_, rfl, _, rfl, d, _, rfl, DGet.t (k := wkey qq.2) ed12 (by rw [wkey_kV]; exact e2), _, rfl, ?_⟩
    rw [val_there hks q2]
    exact iteF ⟨rfl, _, _, rfl⟩
  · obtain ⟨rfl, x8, x9, rfl⟩ := p
    exact q _
end
end Ek
namespace Ek
open PySem L2
theorem all_mk {l : PySem.W.OpenLaw} {w : World} {K : PySem.W.Frag} {h : Heap} {mg : Str → Option Value} {fa f1 f2 f3 f4 f5 f6 f7 f8 f9 f10 f11 f12 f13 f14 f15 f16 : Addr} (X : K.In h) (G : h.Ns mainGlobals mg) (hfa : mg "law" = some (.ref fa))
    {od1 an1 od2 an2 od3 an3 od4 an4 od5 an5 od6 an6 od7 an7 od8 an8 od9 an9 od10 an10 od11 an11 od12 an12 od13 an13 od14 an14 od15 an15 od16 an16 : Option Addr} {sl1 sl2 sl3 sl4 sl5 sl6 sl7 sl8 sl9 sl10 sl11 sl12 sl13 sl14 sl15 sl16 : Array (Option Value)} {oc1 kV1 dc1 pm1 cd1 ct1 oc2 kV2 dc2 pm2 cd2 ct2 oc3 kV3 dc3 pm3 cd3 ct3 oc4 kV4 dc4 pm4 cd4 ct4 oc5 kV5 dc5 pm5 cd5 ct5 oc6 kV6 dc6 pm6 cd6 ct6 oc7 kV7 dc7 pm7 cd7 ct7 oc8 kV8 dc8 pm8 cd8 ct8 oc9 kV9 dc9 pm9 cd9 ct9 oc10 kV10 dc10 pm10 cd10 ct10 oc11 kV11 dc11 pm11 cd11 ct11 oc12 kV12 dc12 pm12 cd12 ct12 oc13 kV13 dc13 pm13 cd13 ct13 oc14 kV14 dc14 pm14 cd14 ct14 oc15 kV15 dc15 pm15 cd15 ct15 oc16 kV16 dc16 pm16 cd16 ct16 : Value} {tM1 tM2 : Tok}
    (a1 : PySem.W.nsIn K mainGlobals "is_int" = some (some (.ref f1))) (l1 : K.lookup f1 = some ⟨oc1, od1, .func (PySem.W.fnOf "is_int" "is_int" (defArgs sIsInt) (defBody sIsInt) (defScope sIsInt) .none kV1 dc1 pm1 an1 cd1 ct1), sl1⟩) (c1 : PySem.W.codeIn K cd1 "is_int" = true) (k1 : PySem.W.keepIn K (.ref f1) = true)
    (a2 : PySem.W.nsIn K mainGlobals "is_in" = some (some (.ref f2))) (l2 : K.lookup f2 = some ⟨oc2, od2, .func (PySem.W.fnOf "is_in" "is_in" (defArgs sIsIn) (defBody sIsIn) (defScope sIsIn) .none kV2 dc2 pm2 an2 cd2 ct2), sl2⟩) (c2 : PySem.W.codeIn K cd2 "is_in" = true) (k2 : PySem.W.keepIn K (.ref f2) = true)
    (a3 : PySem.W.nsIn K mainGlobals "echo" = some (some (.ref f3))) (l3 : K.lookup f3 = some ⟨oc3, od3, .func (PySem.W.fnOf "echo" "echo" (defArgs sEcho) (defBody sEcho) (defScope sEcho) .none kV3 dc3 pm3 an3 cd3 ct3), sl3⟩) (c3 : PySem.W.codeIn K cd3 "echo" = true) (k3 : PySem.W.keepIn K (.ref f3) = true)
    (a4 : PySem.W.nsIn K mainGlobals "echoes_of" = some (some (.ref f4))) (l4 : K.lookup f4 = some ⟨oc4, od4, .func (PySem.W.fnOf "echoes_of" "echoes_of" (defArgs sEchoes) (defBody sEchoes) (defScope sEchoes) .none kV4 dc4 pm4 an4 cd4 ct4), sl4⟩) (c4 : PySem.W.codeIn K cd4 "echoes_of" = true) (k4 : PySem.W.keepIn K (.ref f4) = true)
    (a5 : PySem.W.nsIn K mainGlobals "bits_of" = some (some (.ref f5))) (l5 : K.lookup f5 = some ⟨oc5, od5, .func (PySem.W.fnOf "bits_of" "bits_of" (defArgs sBits) (defBody sBits) (defScope sBits) .none kV5 dc5 pm5 an5 cd5 ct5), sl5⟩) (c5 : PySem.W.codeIn K cd5 "bits_of" = true) (k5 : PySem.W.keepIn K (.ref f5) = true)
    (a6 : PySem.W.nsIn K mainGlobals "path_word" = some (some (.ref f6))) (l6 : K.lookup f6 = some ⟨oc6, od6, .func (PySem.W.fnOf "path_word" "path_word" (defArgs sPath) (defBody sPath) (defScope sPath) .none kV6 dc6 pm6 an6 cd6 ct6), sl6⟩) (c6 : PySem.W.codeIn K cd6 "path_word" = true) (k6 : PySem.W.keepIn K (.ref f6) = true)
    (a7 : PySem.W.nsIn K mainGlobals "standard_words" = some (some (.ref f7))) (l7 : K.lookup f7 = some ⟨oc7, od7, .func (PySem.W.fnOf "standard_words" "standard_words" (defArgs sWords) (defBody sWords) (defScope sWords) .none kV7 dc7 pm7 an7 cd7 ct7), sl7⟩) (c7 : PySem.W.codeIn K cd7 "standard_words" = true) (k7 : PySem.W.keepIn K (.ref f7) = true)
    (a8 : PySem.W.nsIn K mainGlobals "cancel" = some (some (.ref f8))) (l8 : K.lookup f8 = some ⟨oc8, od8, .func (PySem.W.fnOf "cancel" "cancel" (defArgs sCancel) (defBody sCancel) (defScope sCancel) .none kV8 dc8 pm8 an8 cd8 ct8), sl8⟩) (c8 : PySem.W.codeIn K cd8 "cancel" = true) (k8 : PySem.W.keepIn K (.ref f8) = true)
    (a9 : PySem.W.nsIn K mainGlobals "outer_sum" = some (some (.ref f9))) (l9 : K.lookup f9 = some ⟨oc9, od9, .func (PySem.W.fnOf "outer_sum" "outer_sum" (defArgs sOuter) (defBody sOuter) (defScope sOuter) .none kV9 dc9 pm9 an9 cd9 ct9), sl9⟩) (c9 : PySem.W.codeIn K cd9 "outer_sum" = true) (k9 : PySem.W.keepIn K (.ref f9) = true)
    (a10 : PySem.W.nsIn K mainGlobals "fillings" = some (some (.ref f10))) (l10 : K.lookup f10 = some ⟨oc10, od10, .func (PySem.W.fnOf "fillings" "fillings" (defArgs sFill) (defBody sFill) (defScope sFill) .none kV10 dc10 pm10 an10 cd10 ct10), sl10⟩) (c10 : PySem.W.codeIn K cd10 "fillings" = true) (k10 : PySem.W.keepIn K (.ref f10) = true)
    (a11 : PySem.W.nsIn K mainGlobals "pairs" = some (some (.ref f11))) (l11 : K.lookup f11 = some ⟨oc11, od11, .func (PySem.W.fnOf "pairs" "pairs" (defArgs sPairs) (defBody sPairs) (defScope sPairs) .none kV11 dc11 pm11 an11 cd11 ct11), sl11⟩) (c11 : PySem.W.codeIn K cd11 "pairs" = true) (k11 : PySem.W.keepIn K (.ref f11) = true)
    (a12 : PySem.W.nsIn K mainGlobals "_law_taken" = some (some (.ref f12))) (l12 : K.lookup f12 = some ⟨oc12, od12, .func (PySem.W.fnOf "_law_taken" "_law_taken" (defArgs sTaken) (defBody sTaken) (defScope sTaken) .none kV12 dc12 pm12 an12 cd12 ct12), sl12⟩) (c12 : PySem.W.codeIn K cd12 "_law_taken" = true) (k12 : PySem.W.keepIn K (.ref f12) = true)
    (a13 : PySem.W.nsIn K mainGlobals "_law_alike" = some (some (.ref f13))) (l13 : K.lookup f13 = some ⟨oc13, od13, .func (PySem.W.fnOf "_law_alike" "_law_alike" (defArgs sAlike) (defBody sAlike) (defScope sAlike) .none kV13 dc13 pm13 an13 cd13 ct13), sl13⟩) (c13 : PySem.W.codeIn K cd13 "_law_alike" = true) (k13 : PySem.W.keepIn K (.ref f13) = true)
    (a14 : PySem.W.nsIn K mainGlobals "_law_orders" = some (some (.ref f14))) (l14 : K.lookup f14 = some ⟨oc14, od14, .func (PySem.W.fnOf "_law_orders" "_law_orders" (defArgs sOrders) (defBody sOrders) (defScope sOrders) .none kV14 dc14 pm14 an14 cd14 ct14), sl14⟩) (c14 : PySem.W.codeIn K cd14 "_law_orders" = true) (k14 : PySem.W.keepIn K (.ref f14) = true)
    (a15 : PySem.W.nsIn K mainGlobals "_law_standard" = some (some (.ref f15))) (l15 : K.lookup f15 = some ⟨oc15, od15, .func (PySem.W.fnOf "_law_standard" "_law_standard" (defArgs sStd) (defBody sStd) (defScope sStd) .none kV15 dc15 pm15 an15 cd15 ct15), sl15⟩) (c15 : PySem.W.codeIn K cd15 "_law_standard" = true) (k15 : PySem.W.keepIn K (.ref f15) = true)
    (a16 : PySem.W.nsIn K mainGlobals "law" = some (some (.ref f16))) (l16 : K.lookup f16 = some ⟨oc16, od16, .func (PySem.W.fnOf "law" "law" (defArgs sLaw) (defBody sLaw) (defScope sLaw) .none kV16 dc16 pm16 an16 cd16 ct16), sl16⟩) (c16 : PySem.W.codeIn K cd16 "law" = true) (k16 : PySem.W.keepIn K (.ref f16) = true)
    (z1 : PySem.W.nsIn K mainGlobals "isinstance" = some none)
    (z2 : PySem.W.nsIn K mainGlobals "int" = some none)
    (z3 : PySem.W.nsIn K mainGlobals "bool" = some none)
    (z4 : PySem.W.nsIn K mainGlobals "str" = some none)
    (z5 : PySem.W.nsIn K mainGlobals "tuple" = some none)
    (z6 : PySem.W.nsIn K mainGlobals "list" = some none)
    (z7 : PySem.W.nsIn K mainGlobals "sum" = some none)
    (z8 : PySem.W.nsIn K mainGlobals "zip" = some none)
    (z9 : PySem.W.nsIn K mainGlobals "len" = some none)
    (z10 : PySem.W.nsIn K mainGlobals "range" = some none)
    (z11 : PySem.W.nsIn K mainGlobals "sorted" = some none)
    (z12 : PySem.W.nsIn K mainGlobals "all" = some none)
    (m1 : PySem.W.nsIn K mainGlobals "MOST_LISTED" = some (some (.int 4 tM1))) (m2 : PySem.W.nsIn K mainGlobals "MOST_SEARCHED" = some (some (.int 10 tM2)))
    : ∃ fd : FuncData, (∀ (s : Shared) (v : Value), BindsTo s fd ⟨[v], []⟩ [("_law_script", v)]) ∧ ∀ base : Heap, K.In base → base.Ns mainGlobals mg → FnOk l.prog w K mg base CX0 5 fa fd ["_law_script"] (spLaw K) := by
  have e := hfa.symm.trans (PySem.W.mg_of X G a16)
  cases e
  have F1 := fun_mk (st := sIsInt) l1 c1 k1
  have b1 := F1.binds (ps := ["value"]) fun _ _ _ _ _ _ us hl => match us, hl with | [_], _ => rfl
  have g1 := PySem.W.mg_of X G a1
  have F2 := fun_mk (st := sIsIn) l2 c2 k2
  have b2 := F2.binds (ps := ["value", "least", "most"]) fun _ _ _ _ _ _ us hl => match us, hl with | [_, _, _], _ => rfl
  have g2 := PySem.W.mg_of X G a2
  have F3 := fun_mk (st := sEcho) l3 c3 k3
  have b3 := F3.binds (ps := ["one", "other", "step"]) fun _ _ _ _ _ _ us hl => match us, hl with | [_, _, _], _ => rfl
  have g3 := PySem.W.mg_of X G a3
  have F4 := fun_mk (st := sEchoes) l4 c4 k4
  have b4 := F4.binds (ps := ["word"]) fun _ _ _ _ _ _ us hl => match us, hl with | [_], _ => rfl
  have g4 := PySem.W.mg_of X G a4
  have F5 := fun_mk (st := sBits) l5 c5 k5
  have b5 := F5.binds (ps := ["number", "many"]) fun _ _ _ _ _ _ us hl => match us, hl with | [_, _], _ => rfl
  have g5 := PySem.W.mg_of X G a5
  have F6 := fun_mk (st := sPath) l6 c6 k6
  have b6 := F6.binds (ps := ["order", "lines", "constant"]) fun _ _ _ _ _ _ us hl => match us, hl with | [_, _, _], _ => rfl
  have g6 := PySem.W.mg_of X G a6
  have F7 := fun_mk (st := sWords) l7 c7 k7
  have b7 := F7.binds (ps := ["many"]) fun _ _ _ _ _ _ us hl => match us, hl with | [_], _ => rfl
  have g7 := PySem.W.mg_of X G a7
  have F8 := fun_mk (st := sCancel) l8 c8 k8
  have b8 := F8.binds (ps := ["one", "other"]) fun _ _ _ _ _ _ us hl => match us, hl with | [_, _], _ => rfl
  have g8 := PySem.W.mg_of X G a8
  have F9 := fun_mk (st := sOuter) l9 c9 k9
  have b9 := F9.binds (ps := ["word", "step"]) fun _ _ _ _ _ _ us hl => match us, hl with | [_, _], _ => rfl
  have g9 := PySem.W.mg_of X G a9
  have F10 := fun_mk (st := sFill) l10 c10 k10
  have b10 := F10.binds (ps := ["length", "depth"]) fun _ _ _ _ _ _ us hl => match us, hl with | [_, _], _ => rfl
  have g10 := PySem.W.mg_of X G a10
  have F11 := fun_mk (st := sPairs) l11 c11 k11
  have b11 := F11.binds (ps := ["length"]) fun _ _ _ _ _ _ us hl => match us, hl with | [_], _ => rfl
  have g11 := PySem.W.mg_of X G a11
  have F12 := fun_mk (st := sTaken) l12 c12 k12
  have b12 := F12.binds (ps := ["_law_row", "_law_many"]) fun _ _ _ _ _ _ us hl => match us, hl with | [_, _], _ => rfl
  have g12 := PySem.W.mg_of X G a12
  have F13 := fun_mk (st := sAlike) l13 c13 k13
  have b13 := F13.binds (ps := ["_law_found", "_law_due"]) fun _ _ _ _ _ _ us hl => match us, hl with | [_, _], _ => rfl
  have g13 := PySem.W.mg_of X G a13
  have F14 := fun_mk (st := sOrders) l14 c14 k14
  have b14 := F14.binds (ps := ["_law_many"]) fun _ _ _ _ _ _ us hl => match us, hl with | [_], _ => rfl
  have g14 := PySem.W.mg_of X G a14
  have F15 := fun_mk (st := sStd) l15 c15 k15
  have b15 := F15.binds (ps := ["_law_order", "_law_lines", "_law_constant"]) fun _ _ _ _ _ _ us hl => match us, hl with | [_, _, _], _ => rfl
  have g15 := PySem.W.mg_of X G a15
  have F16 := fun_mk (st := sLaw) l16 c16 k16
  have T : Tb mg := ⟨PySem.W.mg_none_of X G z1, PySem.W.mg_none_of X G z2, PySem.W.mg_none_of X G z3, PySem.W.mg_none_of X G z4, PySem.W.mg_none_of X G z5, PySem.W.mg_none_of X G z6, PySem.W.mg_none_of X G z7, PySem.W.mg_none_of X G z8, PySem.W.mg_none_of X G z9, PySem.W.mg_none_of X G z10, PySem.W.mg_none_of X G z11, PySem.W.mg_none_of X G z12⟩
  have M1 := PySem.W.mg_of X G m1
  have M2 := PySem.W.mg_of X G m2
  refine ⟨PySem.W.fnOf "law" "law" (defArgs sLaw) (defBody sLaw) (defScope sLaw) .none kV16 dc16 pm16 an16 cd16 ct16, fun s v => .of_eq rfl, fun base _ _ => ?_⟩
  have O1 := ok_isint (P := l.prog) (w := w) (base := base) T F1 
  have O2 := ok_isin (k := 0) (P := l.prog) (w := w) (base := base) T F2 O1 b1 k1 g1
  have O3 := ok_echo (P := l.prog) (w := w) (base := base) T F3 
  have O4 := ok_echoes (P := l.prog) (w := w) (base := base) T F4 O3 b3 k3 g3
  have O5 := ok_bits (P := l.prog) (w := w) (base := base) T F5 
  have O6 := ok_path (P := l.prog) (w := w) (base := base) T F6 O5 b5 k5 g5
  have O7 := ok_words (P := l.prog) (w := w) (base := base) T F7 ⟨_, M1⟩ O2 b2 k2 g2 O5 b5 k5 g5 O6 b6 k6 g6
  have O8 := ok_cancel (P := l.prog) (w := w) (base := base) T F8 O4 b4 k4 g4
  have O9 := ok_outer (P := l.prog) (w := w) (base := base) T F9 
  have O10 := ok_fill (P := l.prog) (w := w) (base := base) T F10 
  have O11 := ok_pairs (P := l.prog) (w := w) (base := base) T F11 ⟨_, M2⟩ O2 b2 k2 g2 O10 b10 k10 g10 O9 b9 k9 g9 O8 b8 k8 g8
  have O12 := ok_taken (P := l.prog) (w := w) (base := base) T F12 
  have O13a := ok_alikeI (P := l.prog) (w := w) (base := base) T F13
  have O13b := ok_alikeT (P := l.prog) (w := w) (base := base) T F13 O13a b13 k13 g13
  have O13 := ok_alikeL (P := l.prog) (w := w) (base := base) T F13 O13b b13 k13 g13
  have O14 := ok_orders (P := l.prog) (w := w) (base := base) T F14 
  have O15 := ok_std (P := l.prog) (w := w) (base := base) T F15 
  exact ok_law (P := l.prog) (w := w) (base := base) T F16 O12 b12 k12 g12 O14 b14 k14 g14 O15 b15 k15 g15 O7 b7 k7 g7 O13 b13 k13 g13 O11 b11 k11 g11
theorem walk {l : PySem.W.OpenLaw} {q : Program} {loose : List Str} {XP : (Str → Option Value) → Heap → Prop} {YP : World → Heap → Prop} {d : DefRec} {K : Params → PySem.W.Frag} (hn : l.most = some 63) (hdf : d.params.defaults = [])
    (hY : ∀ (w : World) (h : Heap), YP w h → (K w.params).In h)
    (F : ∀ (w : World) (mg : Str → Option Value) (fa : Addr) (h : Heap), (K w.params).In h → h.Ns mainGlobals mg → mg d.name = some (.ref fa) →
      ∃ fd : FuncData, (∀ (s : Shared) (u : Value), BindsTo s fd ⟨[u], []⟩ [("_law_script", u)]) ∧ ∀ base : Heap, (K w.params).In base → base.Ns mainGlobals mg → FnOk l.prog w (K w.params) mg base CX0 5 fa fd ["_law_script"] (spLaw (K w.params))) :
    PySem.W.WalkO q loose XP YP l.row.toRowW d [] (fun f vs => PySem.call f vs) :=
  L2.walk_of (n := 63) (k := 5) (x := "_law_script") (CX := fun _ => CX0) (sp := fun w => spLaw (K w.params)) hn (by decide) hdf ⟨rfl, by decide, by decide⟩ hY F (fun _ _ a ns hl _ hS => ⟨a, ns, rfl, hS, hl, fun _ => rfl⟩) fun _ _ _ _ _ z => z
end Ek
open PySem PySem.W PyProof.Rows
set_option maxRecDepth 100000 in
set_option maxHeartbeats 0 in
theorem PySem.Challenge.cw_echowords_k21_whole_standard_words_holds : PySem.Challenge.rw_echowords_k21_whole_standard_words.Holds := by
  w_on; o_law; k_head; (case hw => w_witness2)
  k_fill
  refine Ek.walk (l := PySem.Challenge.rw_echowords_k21_whole_standard_words) rfl rfl (fun w h Y => PySem.W.kIn_of Y) ?F
  case F =>
    intro w mg fa h KX G hmg
    refine' Ek.all_mk KX G hmg ?a1 ?l1 ?c1 ?k1 ?a2 ?l2 ?c2 ?k2 ?a3 ?l3 ?c3 ?k3 ?a4 ?l4 ?c4 ?k4 ?a5 ?l5 ?c5 ?k5 ?a6 ?l6 ?c6 ?k6 ?a7 ?l7 ?c7 ?k7 ?a8 ?l8 ?c8 ?k8 ?a9 ?l9 ?c9 ?k9 ?a10 ?l10 ?c10 ?k10 ?a11 ?l11 ?c11 ?k11 ?a12 ?l12 ?c12 ?k12 ?a13 ?l13 ?c13 ?k13 ?a14 ?l14 ?c14 ?k14 ?a15 ?l15 ?c15 ?k15 ?a16 ?l16 ?c16 ?k16 ?z1 ?z2 ?z3 ?z4 ?z5 ?z6 ?z7 ?z8 ?z9 ?z10 ?z11 ?z12 ?m1 ?m2
    (case a1 => k_is)
    (case l1 => k_is)
    (case c1 => k_is)
    (case k1 => k_is)
    (case a2 => k_is)
    (case l2 => k_is)
    (case c2 => k_is)
    (case k2 => k_is)
    (case a3 => k_is)
    (case l3 => k_is)
    (case c3 => k_is)
    (case k3 => k_is)
    (case a4 => k_is)
    (case l4 => k_is)
    (case c4 => k_is)
    (case k4 => k_is)
    (case a5 => k_is)
    (case l5 => k_is)
    (case c5 => k_is)
    (case k5 => k_is)
    (case a6 => k_is)
    (case l6 => k_is)
    (case c6 => k_is)
    (case k6 => k_is)
    (case a7 => k_is)
    (case l7 => k_is)
    (case c7 => k_is)
    (case k7 => k_is)
    (case a8 => k_is)
    (case l8 => k_is)
    (case c8 => k_is)
    (case k8 => k_is)
    (case a9 => k_is)
    (case l9 => k_is)
    (case c9 => k_is)
    (case k9 => k_is)
    (case a10 => k_is)
    (case l10 => k_is)
    (case c10 => k_is)
    (case k10 => k_is)
    (case a11 => k_is)
    (case l11 => k_is)
    (case c11 => k_is)
    (case k11 => k_is)
    (case a12 => k_is)
    (case l12 => k_is)
    (case c12 => k_is)
    (case k12 => k_is)
    (case a13 => k_is)
    (case l13 => k_is)
    (case c13 => k_is)
    (case k13 => k_is)
    (case a14 => k_is)
    (case l14 => k_is)
    (case c14 => k_is)
    (case k14 => k_is)
    (case a15 => k_is)
    (case l15 => k_is)
    (case c15 => k_is)
    (case k15 => k_is)
    (case a16 => k_is)
    (case l16 => k_is)
    (case c16 => k_is)
    (case k16 => k_is)
    (case z1 => k_is)
    (case z2 => k_is)
    (case z3 => k_is)
    (case z4 => k_is)
    (case z5 => k_is)
    (case z6 => k_is)
    (case z7 => k_is)
    (case z8 => k_is)
    (case z9 => k_is)
    (case z10 => k_is)
    (case z11 => k_is)
    (case z12 => k_is)
    (case m1 => k_is)
    (case m2 => k_is)
#print axioms PySem.Challenge.cw_echowords_k21_whole_standard_words_holds
