import PyProof.Rows.All
import HandS.TupSets
import HandS.SortRule
import HandS.TupLe
import HandS.DictComp
import HandS.DictTup
import HandS.Conv
import HandS.MapSum
import HandS.TupMul
import HandS.ForMost
import HandS.Defaults
import HandS.Exc
import HandS.TupAny
import HandS.Flow
import HandS.Style
import HandS.Zip
import HandS.IsInst
import HandS.HeadHook1
import HandS.Lambda
import HandS.ExcIs
import KE.KExcIs
import HandS.ExcField
import KE.GoesZip
import KE.GoesEnum
import KE.GoesMore
import HandS.Star
import HandS.WordsExc
import HandS.CallLocal
import HandS.ExcInit
import KE.KExcSuper
import HandS.EndTab
import HandS.HeadHook4
import HandS.HeadWalk
import HandS.Words
import HandS.Head0
import HandS.Head1
import HandS.Head2
import PySem.Challenge.RW_whomtotell_k36_duals_of_places_by_trying
set_option Elab.async false
set_option linter.all false
set_option maxRecDepth 100000
set_option maxHeartbeats 0
/-! PurSort: sorted(xs), xs a list of tuples of ints, any number of them, of any lengths but 0. -/
namespace Pur
open
    PySem PySem.Spec PyProof.Rows L2
/-! ### lists of ints in order -/
abbrev lx : List Int → List Int → Bool := HT.lexLt
theorem lx_refl : ∀ l : List Int, lx l l = false
  | [] => rfl
  | x :: l => by
    show (if x = x then lx l l else decide (x < x)) = false
    rw [if_pos rfl]; exact lx_refl l
theorem lx_asym : ∀ l m : List Int, lx l m = true → lx m l = false
  | [], [], h => rfl
  | [], y :: m, h => rfl
  | x :: l, [], h => by cases h
  | x :: l, y :: m, h => by
    have h : (if x = y then lx l m else decide (x < y)) = true := h
    show (if y = x then lx m l else decide (y < x)) = false
    by_cases e : x = y
    · rw [if_pos e] at h
      rw [if_pos e.symm]
      exact lx_asym l m h
    · rw [if_neg e, decide_eq_true_eq] at h
      rw [if_neg (Ne.symm e), decide_eq_false_iff_not]
      omega
theorem lx_antisymm : ∀ l m : List Int, lx l m = false → lx m l = false → l = m
  | [], [], _, _ => rfl
  | [], y :: m, h, _ => by cases h
  | x :: l, [], _, h => by cases h
  | x :: l, y :: m, h, k => by
    have h : (if x = y then lx l m else decide (x < y)) = false := h
    have k : (if y = x then lx m l else decide (y < x)) = false := k
    by_cases e : x = y
    · rw [if_pos e] at h
      rw [if_pos e.symm] at k
      rw [e, lx_antisymm l m h k]
    · rw [if_neg e, decide_eq_false_iff_not] at h
      rw [if_neg (Ne.symm e), decide_eq_false_iff_not] at k
      omega
theorem lx_tr : ∀ x y z : List Int, lx y x = false → lx z y = false → lx z x = false
  | [], y, [], _, _ => rfl
  | [], [], z :: r, h, k => k
  | [], b :: y, z :: r, h, k => rfl
  | a :: x, y, [], h, k => by
    cases y with
    | nil => exact h
    | cons b y => cases k
  | a :: x, [], c :: z, h, k => by cases h
  | a :: x, b :: y, c :: z, h, k => by
    have h : (if b = a then lx y x else decide (b < a)) = false := h
    have k : (if c = b then lx z y else decide (c < b)) = false := k
    show (if c = a then lx z x else decide (c < a)) = false
    by_cases e1 : b = a
    · rw [if_pos e1] at h
      by_cases e2 : c = b
      · rw [if_pos e2] at k
        rw [if_pos (e2.trans e1)]
        exact lx_tr x y z h k
      · rw [if_neg e2, decide_eq_false_iff_not] at k
        rw [if_neg (fun e => e2 (e.trans e1.symm)), decide_eq_false_iff_not]
        omega
    · rw [if_neg e1, decide_eq_false_iff_not] at h
      by_cases e2 : c = b
      · rw [if_neg (fun e => e1 (e2.symm.trans e)), decide_eq_false_iff_not]
        omega
      · rw [if_neg e2, decide_eq_false_iff_not] at k
        by_cases e3 : c = a
        · omega
        · rw [if_neg e3, decide_eq_false_iff_not]
          omega
theorem lx_swo : SrtO.Swo lx := ⟨lx_asym, lx_tr⟩
theorem lx_swoV {α : Type} (k : α → List Int) : SrtO.Swo (fun x y => lx (k x) (k y)) := ⟨fun x y => lx_asym _ _, fun x y z => lx_tr _ _ _⟩
/-- sorted -/
def insT (x : List Int) : List (List Int) → List (List Int)
  | [] => [x]
  | y :: l => if lx y x = true then y :: insT x l else x :: y :: l
def srtT : List (List Int) → List (List Int)
  | [] => []
  | x :: l => insT x (srtT l)
theorem insT_perm (x : List Int) : ∀ l, (insT x l).Perm (x :: l)
  | [] => List.Perm.refl _
  | y :: l => by
    unfold insT
    split
    · exact ((insT_perm x l).cons y).trans (List.Perm.swap x y l)
    · exact List.Perm.refl _
theorem srtT_perm : ∀ l, (srtT l).Perm l
  | [] => List.Perm.refl _
  | x :: l => (insT_perm x (srtT l)).trans ((srtT_perm l).cons x)
theorem insT_srt (x : List Int) : ∀ l, SrtO.Srtd lx l → SrtO.Srtd lx (insT x l)
  | [], h => SrtO.srtd_one _
  | y :: l, h => by
    unfold insT
    split
    · rename_i c
      refine List.pairwise_cons.mpr ⟨fun z hz => ?_, insT_srt x l (List.pairwise_cons.mp h).2⟩
      rcases List.mem_cons.mp ((insT_perm x l).mem_iff.mp hz) with e | hz
      · subst e; exact lx_asym _ _ c
      · exact SrtO.srtd_head h z hz
    · rename_i c
      have c : lx y x = false := by simpa using c
      refine List.pairwise_cons.mpr ⟨fun z hz => ?_, h⟩
      rcases
          List.mem_cons.mp hz with e | hz
      · subst e; exact c
      · exact lx_tr _ _ _ c (SrtO.srtd_head h z hz)
theorem srtT_srt : ∀ l, SrtO.Srtd lx (srtT l)
  | [] => List.Pairwise.nil
  | x :: l => insT_srt x _ (srtT_srt l)
/-- there is one sorted list of the same items -/
theorem srt_uniq : ∀ {l m : List (List Int)}, SrtO.Srtd lx l → SrtO.Srtd lx m → l.Perm m → l = m
  | [], m, _, _, h => (List.Perm.eq_nil h.symm).symm
  | x :: l, [], _, _, h => absurd h.length_eq (by simp)
  | x :: l, y :: m, hl, hm, h =>
        by
    have h1 : lx x y = false := by
      rcases List.mem_cons.mp (h.mem_iff.mp (List.mem_cons_self (a := x) (l := l))) with e | hx
      · rw [e]; exact lx_refl y
      · exact SrtO.srtd_head hm x hx
    have h2 : lx y x = false := by
      rcases List.mem_cons.mp (h.mem_iff.mpr (List.mem_cons_self (a := y) (l := m))) with e | hy
      · rw [e]; exact lx_refl x
      · exact SrtO.srtd_head hl y hy
    have e := lx_antisymm x y h1 h2
    subst e
    rw [srt_uniq (List.pairwise_cons.mp hl).2 (List.pairwise_cons.mp hm).2 h.cons_inv]
/-! ### what the machine compares -/
section
variable
    {prog : Program} {w : World} {A : Around} {E : Value → Shared → Prop} {s : Shared}
theorem lex_any {b fin : Bool} {Q : Bool → Shared → Prop} : ∀ {ns ms : List Int} {xs ys : List Value} (i : Nat), IntsAre xs ns → IntsAre ys ms → fin = decide (ns.length < ms.length) → Q (lx ns ms) s → PySem.W.KatLex prog w A b fin Q (xs.zip ys) i s
  | [], [], xs, ys, i, hx, hy, hf, h => by
    cases hx; cases hy
    subst hf
    exact PySem.W.kat_nil h
  | [], m :: ms, xs, ys, i, hx, hy, hf, h => by
    cases hx
    subst hf
    rw [show decide (([] : List Int).length < (m :: ms).length) = true from decide_eq_true (by simp)]
    exact PySem.W.kat_nil h
  | n :: ns, [], xs, ys, i, hx, hy, hf, h => by
    cases hy
    subst hf
    rw [show decide ((n :: ns).length < ([] : List Int).length) = false from decide_eq_false (by simp), List.zip_nil_right]
    exact PySem.W.kat_nil h
  | n :: ns, m :: ms, xs, ys, i, hx, hy, hf, h => by
    cases hx with
    | cons _ t hx =>
      cases hy with
      | cons _ u hy =>
        rw [List.zip_cons_cons]
        refine
            PySem.W.kat_cons (wpAny_eqBool_int ?_)
        have h : Q (if n = m then lx ns ms else decide (n < m)) s := h
        by_cases e : n = m
        · rw [show (n == m) = true by simp [e]]
          rw [if_pos e] at h
          refine PySem.W.kat_yes (lex_any (i + 1) hx hy (hf.trans ?_) h)
          simp
        · rw [show (n == m) = false by simp [e]]
          rw [if_neg e] at h
          exact PySem.W.kat_no (TS.oneLt_ints _ h)
end
open TS in
/-- what is sorted: tuples of ints, none of them empty -/
def TsOk (h : Heap) (k : Value → List Int) (vs : List Value) : Prop := ∀ v ∈ vs, TupInts h v (k v) ∧ k v ≠ []
theorem TsOk.keeps {h h' : Heap} {k : Value → List Int} {vs : List Value} (x : TsOk h k vs) (kp : ∀ b o, h.get? b = some o → o.cls = .type "tuple" → h'.get? b = some o) : TsOk h' k vs := fun v hv => ⟨(x v hv).1.keeps kp, (x v hv).2⟩
theorem ts_firsts {h : Heap} {k : Value → List Int} : ∀ vs : List Value, TsOk h k vs → ∃ fs, PySem.W.KatTups h vs fs ∧ fs.length = vs.length ∧ ∀ f, f ∈ fs → ∃ n t, f = Value.int n t
  | [], _ => ⟨[], PySem.W.KatTups.nil, rfl, fun f hf => absurd hf (by simp)⟩
  | v :: vs, x => by
    obtain ⟨fs, kt, hl, hi⟩ := ts_firsts vs fun u hu => x u (List.mem_cons_of_mem _ hu)
    obtain ⟨⟨a, xs, rfl, ⟨o, ho, hc, n, hd⟩, i⟩, hn⟩ := x v List.mem_cons_self
    have hx0 : xs.toList ≠ [] := fun e => by
      rw [e] at i
      have := i.length
      exact hn (List.eq_nil_of_length_eq_zero this.symm)
    obtain ⟨y, ys, e⟩ := List.exists_cons_of_ne_nil hx0
    obtain ⟨m, t, hy⟩ := i.all y (by rw [e]; exact List.mem_cons_self)
    refine ⟨y :: fs, PySem.W.KatTups.cons ho hc hd (by rw [← Array.getElem?_toList, e]; rfl) kt, by rw [List.length_cons, List.length_cons, hl], fun f hf => ?_⟩
    rcases
        List.mem_cons.mp hf with rfl | hf
    · exact ⟨m, t, hy⟩
    · exact hi f hf
section
variable
    {prog : Program} {w : World} {A : Around} {E : Value → Shared → Prop} {s : Shared}
theorem ts_cmp {b : Bool} {k : Value → List Int} {vs : List Value} (x : TsOk s.heap k vs) : SrtO.Cmp prog w A s (tuples' b) (fun p => p.1 ∈ vs) (SrtO.lt2 fun v u => lx (k v) (k u)) := by
  intro p q hp hq
  obtain ⟨⟨a, xs, e1, ⟨o, ho, hc, n, hd⟩, i⟩, _⟩ := x _ hp
  obtain ⟨⟨a', ys, e2, ⟨o', ho', hc', n', hd'⟩, i'⟩, _⟩ := x _ hq
  show wpAny (model prog w) A (keyLt' (tuples' b) p.1 q.1) (fun r s' => s' = s ∧ r = lx (k p.1) (k q.1)) (fun _ _ => False) s
  generalize k p.1 = ks at i ⊢
  generalize k q.1 = ls at i' ⊢
  rw [e1, e2]
  refine PySem.W.kat_lt ho hd ho' hd' (lex_any 0 i i' ?_ ⟨rfl, rfl⟩)
  have l1 := i.length
  have l2 := i'.length
  rw
      [Array.length_toList] at l1 l2
  rw [l1, l2]
theorem ts_sortable {a : Addr} {k : Value → List Int} {vs : List Value} (h0 : 0 < vs.length) (x : TsOk s.heap k vs) (ha : ∀ o, s.heap.get? a = some o → o.cls ≠ .type "tuple") : SrtO.SortableO prog w A s a vs fun v u => lx (k v) (k u) := by
  intro h' keep
  have x' : TsOk h' k vs := x.keeps fun b o e c => keep b o (fun z => by subst z; exact ha o e c) e
  obtain ⟨fs, h1, h2, h3⟩ := ts_firsts vs x'
  refine ⟨_, fun Q E hq => PySem.W.kat_kind (T := .type "int") h1 (by omega) (fun f hm => ?_) (by rfl) hq, ts_cmp x'⟩
  obtain ⟨n, t, rfl⟩ := h3 f hm
  exact PySem.W.Looks.now
theorem sorted_ts {l : Addr} {vs : List Value} {k : Value → List Int} {Q : Value → Shared → Prop} (hl : s.heap.IsList l vs.toArray) (hz : vs.length ≤ sizeLine) (x : TsOk s.heap k vs)
    (h : ∀ (h' : Heap) (d : Addr) (out : List Value), SrtO.Srtd (fun v u => lx (k v) (k u)) out → out.Perm vs → (∀ b o, s.heap.get? b = some o → h'.get? b = some o) → s.heap.objs.size ≤ d → (∃ n, h'.get? d = some (seqObj "list" out.toArray n)) → Q (.ref d) { s with heap := h' }) :
    wpAny
        (model prog w) A (call (.builtin "sorted") [.ref l]) Q E s := by
  refine SrtO.sorted_ord (lx_swoV k) hl hz (fun h2 h₁ a ha kk => ?_) fun out hs hb => h _ _ out hs hb.perm (fun b o e => sortedAll_old e) (Nat.le_succ _) (sortedAll_at s.heap vs out.toArray)
  refine ts_sortable (s := { s with heap := h₁ }) (by omega) (x.keeps fun b o e _ => (kk b o e).2) fun o e => ?_
  obtain rfl := Option.some.inj (e.symm.trans ha)
  intro c
  exact
      absurd (Value.type.inj c) (by decide)
end
/-! ### as a rule of the layer -/
def TupH (H : Hp) (x : V) (n : List Int) : Prop := ∃ t, x = .ref t ∧ H t = some (.tup (n.map V.int))
/-- values and the lists of ints that they stand for -/
inductive TLs (K : PySem.W.Frag) (H : Hp) : List V → List (List Int) → Prop where
  | nil : TLs K H [] []
  | cons {x : V} {n : List Int} {xs : List V} {ns : List (List Int)} (h : TupH H x n) (t : TLs K H xs ns) : TLs K H (x :: xs) (n :: ns)
theorem TLs.mem {K : PySem.W.Frag} {H : Hp} : ∀ {xs : List V} {ns : List (List Int)}, TLs K H xs ns → ∀ x ∈ xs, ∃ n ∈ ns, TupH H x n
  | _, _, .nil, x, hx => absurd hx (by simp)
  | _, _, .cons h t, x, hx =>
        by
    rcases
        List.mem_cons.mp hx with rfl | hx
    · exact ⟨_, List.mem_cons_self, h⟩
    · obtain ⟨n, hn, h⟩ := TLs.mem t x hx
      exact ⟨n, List.mem_cons_of_mem _ hn, h⟩
theorem TLs.of {K : PySem.W.Frag} {H : Hp} {k : V → List Int} : ∀ {xs : List V}, (∀ x ∈ xs, TupH H x (k x)) → TLs K H xs (xs.map k)
  | [], _ => .nil
  | x :: xs, h => .cons (h x List.mem_cons_self) (TLs.of fun y hy => h y (List.mem_cons_of_mem _ hy))
def rSortL (K : PySem.W.Frag) : List V → Hp → VK → Prop := fun vs H Q => ∃ (a : Addr) (xs : List V) (L : List (List Int)), vs = [V.ref a] ∧ SqL K H a xs ∧ TLs K H xs L ∧ (∀ n ∈ L, n ≠ []) ∧
  ∀ (ys : List V) (p : Addr), TLs K H ys (srtT L) → H p = none → Q (.ref p) (upd H p (.lst ys))
theorem TLs.map {K : PySem.W.Frag} {H : Hp} {k : V → List Int} (hk : ∀ x n, TupH H x n → k x = n) : ∀ {xs : List V} {ns : List (List Int)}, TLs K H xs ns → ns = xs.map k
  | _, _, .nil => rfl
  | _, _, .cons h t => by rw [List.map_cons, hk _ _ h, ← TLs.map hk t]
section
variable
    {X : Cx} {pins : List (Addr × Obj)} {σ : L2.St} {H : Hp} {s : Shared}
theorem cr_sortL : CallR X (.builtin "sorted") (rSortL X.K) := by
  intro
      pins s σ H vs us Q I r h
  obtain ⟨a, xs, L, rfl, hs, hx, hne, q⟩ := h
  obtain
      ⟨its, rv, hl, hz⟩ := I.list hs
  rw [Vals.ref1 r]
  obtain
      ⟨e1, e2⟩ := bkV_refs rv fun x m => by
    obtain ⟨ns, _, t, e, _⟩ := hx.mem x m
    exact ⟨t, e⟩
  have raw : ∀ x n, TupH H x n → ∀ u, x = bkV u → TS.TupInts s.heap u n := fun x n ⟨t, e, ht⟩ u hu => by
    rw [e] at hu
    rw [bkV_ref hu.symm]
    exact tupI_raw I (SqT.of ht)
  let k : Value → List Int := TS.intsOf s.heap
  have hk : ∀ v ∈ its, TupH H (bkV v) (k v) ∧ k v ≠ [] := fun v hv => by
    have hm : bkV v ∈ xs := by rw [e1]; exact List.mem_map.mpr ⟨v, hv, rfl⟩
    obtain ⟨n, hn, t⟩ := hx.mem _ hm
    have e : k v = n := (raw _ _ t v rfl).ints
    rw [e]
    exact ⟨t, hne n hn⟩
  have eL : L = its.map k := by
    have h1 : L = xs.map (fun x => match x with
      | .ref a => TS.intsOf s.heap (.ref a)
      | _ => []) := hx.map fun x n ⟨t, e, ht⟩ => by
        subst e
        exact (tupI_raw I (SqT.of ht)).ints
    rw [h1, e1, List.map_map]
    refine List.map_congr_left fun u hu => ?_
    obtain ⟨t, rfl⟩ := e2 u hu
    rfl
  refine sorted_ts (k := k) hl.isList (by rw [← rv.length]; exact hz) (fun v hv => ⟨raw _ _ (hk v hv).1 v rfl, (hk v hv).2⟩) fun h' d out h1 h2 kp hd hn => ?_
  have h3 : ∀ u ∈ out, ∃ a, u = Value.ref a := fun u hu => e2 u (h2.mem_iff.mp hu)
  obtain ⟨n, hn⟩ := hn
  have hb : (out.map bkV).Perm xs := by rw [e1]; exact h2.map bkV
  have ho : out.map k = srtT L := by
    refine srt_uniq (List.pairwise_map.mpr h1) (srtT_srt L) ?_
    rw [eL]
    exact (h2.map k).trans (srtT_perm _).symm
  refine ⟨.ref d, upd H d (.lst (out.map bkV)), I.laid (t' := s.toks) kp hd ⟨?_, out, n, bkV_vals h3, hn⟩, rfl, q _ d ?_ (I.hok.fresh hd)⟩
  · rw [hb.length_eq]
    exact hz
  · rw [← ho]
    have : ∀ l : List Value, (∀ u ∈ l, u ∈ its) → TLs X.K H (l.map bkV) (l.map k) := fun l => by
      induction l with
      | nil => exact fun _ => .nil
      | cons u l ih => exact fun h => .cons (hk u (h u List.mem_cons_self)).1 (ih fun y hy => h y (List.mem_cons_of_mem _ hy))
    exact this out fun u hu => h2.mem_iff.mp hu
end
end Pur

/-! PurDict: {k: v for t in xs}, the keys tuples; sorted of it. -/
namespace Pur
open
    PySem PySem.Spec PyProof.Rows L2
section
variable
    {X : Cx} {pins : List (Addr × Obj)} {σ : L2.St} {H : Hp} {s : Shared}
/-- a tuple key stored by a comprehension -/
theorem dictSet_tup {E : Value → Shared → Prop} {dc kb : Addr} {rows : List (List Key × V)} {ks : List Key} {x : V} {u : Value} {Q : Unit → Shared → Prop} (hu : X.A.units < cLine) (I : Inv X pins σ H s) (hd : H dc = some (.dT rows)) (hl : rows.length < sizeLine)
    (hk : H kb = some (.tup (ks.map kV))) (rx : RelV x u) (q : ∀ s', Inv X pins σ (upd H dc (.dT (putK rows ks x))) s' → Q () s') : wpAny (model X.prog X.w) X.A (dictSet dc (.ref kb) u) Q E s := by
  obtain ⟨z, hsys, recs, rel, dd⟩ := dt_of I.hok hd
  have e1 : recs.length ≤ sizeLine := (Paired.length rel) ▸ z
  have e2 : (putK rows ks x).length ≤ sizeLine := Nat.le_trans (length_putK rows ks x) hl
  refine wpAny_dictSet_heap (hsz := e1) (show (tupleKind (mixKind X.prog X.w)).room X.A from hu) (key_of I.hok hk) dd fun h' dd' sb => q _ ?_
  obtain ⟨o, es, ep, ho, c1, c2, c3, _, c5⟩ := dd'
  refine d_write I (by rw [hd]; trivial) sb ⟨o, ho⟩ ⟨e2, hsys, _, KT.keeps (rel.put ks hk rx) fun c ys ec => ?_, o, es, ep, ho, c1, c2, c3, c5⟩
  have : c ≠ dc := fun ez => by rw [ez, hd] at ec; cases ec
  rw [upd_ne this]; exact ec
end
section
variable {X : Cx}
/-- what one wants of {k: v for t in xs} with tuple keys -/
def tDcT (wi : TI) (gt : TG) (tk tv : TE) (own : List Nat) : TE := fun σ H Q => wi σ H fun J H1 => ∀ dc, H1 dc = none → ∃ St : Nat → Nat → Hp → Prop, (∃ m, St 0 m (upd H1 dc (.dT []))) ∧ ∀ i m Hi, St i m Hi →
  (J.stop i Hi ∧ Q (.ref dc) Hi) ∨ (J.go i Hi ∧ ∃ Aft : Hp → Prop, (∀ Ha, Aft Ha → ∃ m', m' < m ∧ St (i + 1) m' Ha) ∧ ∀ x Hx, J.yld i Hi x Hx → gt x (wipe σ own) Hx fun σt Ht => wipe σt own = wipe σ own ∧
    tk σt Ht fun y Hy => tv σt Hy fun z Hz => ∃ rows ks kb, y = .ref kb ∧ Hz kb = some (.tup (ks.map kV)) ∧ Hz dc = some (.dT rows) ∧ rows.length < sizeLine ∧ Aft (upd Hz dc (.dT (putK rows ks z))))
abbrev BlkPG (X : Cx) (scope : Scope) (tg : Expr) (gt : TG) : Prop := ∀ (s : Shared) (H : Hp) (C : Addr) (cl : List (Str × Addr)) (fp : List Addr), PG (X.blk s H scope (compEnvC scope cl C X.env) fp) tg gt
abbrev BlkPE (X : Cx) (scope : Scope) (e : Expr) (t : TE) : Prop := ∀ (s : Shared) (H : Hp) (C : Addr) (cl : List (Str × Addr)) (fp : List Addr), PE (X.blk s H scope (compEnvC scope cl C X.env) fp) e t
theorem pe_dcT {kx vx tg iter : Expr} {scope : Scope} {own : List (Str × Nat)} {pos : Pos} {wi : TI} {gt : TG} {tk tv : TE} (hu : X.A.units < cLine) (hc : X.calm = true) (hN : X.N.Nodup) (hi : PI X tg iter wi) (ok : BlkOk X.N X.env.scope scope own)
    (hg : BlkPG X scope tg gt) (hk : BlkPE X scope kx tk) (hv : BlkPE X scope vx tv) (hs : ∀ x, foldedSetIterable iter X.env x = pure x) : PE X (.DictComp kx vx [⟨tg, iter, [], 0⟩] scope pos) (tDcT wi gt tk tv (own.map (·.2))) := by
  refine ⟨fun pins s σ H Q I want => ?_⟩
  rw [arm_eval_DictComp]
  have frees : ∀ y ∈ scope.names, y.2 = .free → ∃ c, X.env.cells.lookup y.1 = some c := fun y hy e => I.ok.has _ ((ok.free y hy e).imp id id)
  refine wpAny_comprehension_free (use := none) rfl hs (closure_ok frees) ok.kind (fun y hy e => by rw [ok.uniq y hy, e]) (thn (hi.run pins s σ H _ I want) fun xv s1 hx => thn hx fun itv s2 hh => ?_)
  obtain ⟨it, fp, tn, J, H2, rfl, I2, T, st2, fp2, want⟩ := hh
  refine
      wpAny_newObj_type (newEnv_comp ?_)
  have fresh2 : H2 s2.heap.objs.size = none := I2.hok.fresh (Nat.le_refl _)
  obtain ⟨St, ⟨m0, first⟩, turn⟩ := want _ fresh2
  have lt2 : ∀ b ∈ fp, b < s2.heap.objs.size := fun b hb => let ⟨o, e, _⟩ := T.obj _ _ st2 b hb; Heap.lt_size e
  -- the new dict
  have I3 : Inv X pins σ (upd H2 s2.heap.objs.size (.dT [])) { s2 with heap := s2.heap.push { cls := .type "dict", data := .dict #[] } } :=
    I2.laid (t' := s2.toks) (fun _ _ e => Heap.get?_push_of_some _ e) (Nat.le_refl _) (dt_empty s2.heap I2.big)
  have fp3 : ∀ b ∈ fp, FpOk X pins (upd H2 s2.heap.objs.size (.dT [])) b ∧ b < (s2.heap.push { cls := .type "dict", data := .dict #[] }).objs.size := fun b hb => by
    refine ⟨⟨?_, (fp2 b hb).2⟩, by rw [Heap.size_push]; exact Nat.lt_succ_of_lt (lt2 b hb)⟩
    rw [upd_ne (Nat.ne_of_lt (lt2 b hb))]; exact (fp2 b hb).1
  have st3 : tn 0 (s2.heap.push { cls := .type "dict", data := .dict #[] }) := T.keep _ _ _ st2 fun _ _ _ e => Heap.get?_push_of_some _ e
  generalize s2.heap.objs.size = dc at *
  generalize hs3 : ({ s2 with heap := s2.heap.push { cls := .type "dict", data := .dict #[] } } : Shared) = s3 at I3
  have e3 : s3.heap = s2.heap.push { cls := .type "dict", data := .dict #[] } := by rw [← hs3]
  rw [← e3] at fp3 st3
  generalize upd H2 dc (.dT []) = H3 at *
  have I4 := block_start I3 ok hN fp3
  generalize hce : compEnvC scope (cellsFrom (s3.heap.objs.size + 1) scope.names (cloFrom X.env.cells scope.names [])) s3.heap.objs.size X.env = ce at I4
  have ceL : ce.locals = s3.heap.objs.size := by subst hce; rfl
  have G : PG (X.blk s3 H3 scope ce fp) tg gt := by subst hce; exact hg _ _ _ _ _
  have Kx : PE (X.blk s3 H3 scope ce fp) kx tk := by subst hce; exact hk _ _ _ _ _
  have Vx : PE (X.blk s3 H3 scope ce fp) vx tv := by subst hce; exact hv _ _ _ _ _
  generalize hs4 : ({ s3 with heap := pushCells (s3.heap.push { cls := .type "dict", data := .dict #[] }) scope.names } : Shared) = s4 at I4
  have st4 : tn 0 s4.heap := T.keep _ _ _ st3 fun _ _ _ e => by rw [← hs4]; exact pushCells_keeps _ _ _ _ (Heap.get?_push_of_some _ e)
  have apart : ∀ {σ' : L2.St} {H' : Hp} {s' : Shared}, Inv (X.blk s3 H3 scope ce fp) [] σ' H' s' → (∀ b ∈ fp, H' b = none) → ∀ b ∈ fp, FpOk (X.blk s3 H3 scope ce fp) [] H' b := fun J' hn b hb =>
    ⟨hn b hb, (J'.ok.exf b hb).1, J'.ok.exfs b hb, .inl hb, fun x c e => (J'.ok.exf b hb).2 x c e, fun p hp => absurd (show p ∈ ([] : List (Addr × Obj)) ++ [] from hp) (by simp)⟩
  have body : codeAny (model X.prog X.w) X.A (.compLoop (.DictComp kx vx [⟨tg, iter, [], 0⟩] scope pos) 0 (.ref it) (.ref dc) ce) (compPost (model X.prog X.w) X.A X.xe none (EP X pins σ Q) (.ref dc) s3.heap.objs.size) s4 := by
    refine compLoop_anyD (fun n s' => ∃ i H', Inv (X.blk s3 H3 scope ce fp) [] (wipe σ (own.map (·.2))) H' s' ∧ tn i s'.heap ∧ (∀ b ∈ fp, H' b = none) ∧ St i n H') ?_ m0 ⟨0, H3, I4, st4, fun b hb => (fp3 b hb).1.1, first⟩
    rintro n s5 ⟨i, H5, I5, st5, fr5, here⟩
    rcases turn i n H5 here with ⟨stop, fin⟩ | ⟨go, Aft, less, step⟩
    · refine thnF (T.done (X.blk s3 H3 scope ce fp) rfl rfl rfl hc i [] s5 _ H5 (fun _ _ => False) I5 (apart I5 fr5) st5 stop) fun r s6 hr => ?_
      obtain ⟨rfl, I6⟩ := hr
      have I7 : Inv X pins σ H5 s6 := I3.call' (ch := fp) I6.os I6.base I6.hok I6.bare fun b hb => let z := (fp3 b hb).1.2; ⟨z.2.2.1, z.1, z.2.2.2.1, z.2.2.2.2⟩
      have off : H5 s3.heap.objs.size = none := by
        have
            z : H5 ce.locals = none := I6.free
        rw [ceL] at z; exact z
      obtain ⟨m, hn, _⟩ := I6.loc
      have
          hn : s6.heap.Ns ce.locals m := hn
      rw [ceL] at hn
      refine ⟨m, hn, fun h'' sb => ?_⟩
      obtain ⟨q0, q1, q2, q3, q4, q5⟩ := I3.fpOk (H' := H5) (Nat.le_refl _) off
      exact ⟨.ref dc, H5, I7.turned (t' := s6.toks) (fun b o hb e => (sb.2 b hb).trans e) q0 q1 q3 q4 q5, rfl, fin⟩
    · refine thnF (T.item (X.blk s3 H3 scope ce fp) rfl rfl rfl hc i [] s5 _ H5 (fun _ _ => False) I5 (apart I5 fr5) st5 go) fun r s6 hr => ?_
      obtain ⟨u, rfl, hr⟩ := hr
      refine thnF hr fun _ s7 hy => ?_
      obtain ⟨x, H7, I7, rx, yl, st7, fr7⟩ := hy
      refine thnF (G.run _ s7 _ H7 x u _ (I7.pinned (apart I7 fr7) (T.obj _ _ st7)) rx (step x H7 yl)) fun _ s8 h8 => ?_
      obtain ⟨σ8, H8, I8, same8, want8⟩ := h8
      refine wpAny_pure ?_
      show wpAny _ _ _ _ _ _
      refine thnF (Kx.run _ s8 σ8 H8 _ I8 want8) fun yv s9 h9 => ?_
      obtain ⟨y, H9, I9, ry, want9⟩ := h9
      refine thnF (Vx.run _ s9 σ8 H9 _ I9 want9) fun zv s10 h10 => ?_
      obtain ⟨z, H10, I10, rz, rows, ks, kb, rfl, hkb, hdc, hl, aft⟩ := h10
      obtain rfl : yv = Value.ref kb := ry
      refine dictSet_tup (X := X.blk s3 H3 scope ce fp) hu I10 hdc hl hkb rz fun s11 I11 => ?_
      obtain ⟨m', hm, nxt⟩ := less _ aft
      have kept : ∀ b ∈ fp, ∀ o, s7.heap.get? b = some o → s11.heap.get? b = some o ∧ upd H10 dc (.dT (putK rows ks z)) b = none := fun b hb o e =>
        let z := I11.pin (b, o) (List.mem_append_right _ (List.mem_append_right _ (mem_pinsAt hb e)))
        ⟨z.1, z.2.1⟩
      have hlen : (wipe σ (own.map (·.2))).length = σ8.length := by rw [← same8, wipe_length]
      refine ⟨m', hm, i + 1, _, (I11.unpinned (pins := [])).weak hlen (fun j v e => ?_), T.keep _ _ _ st7 fun b hb o e => (kept b hb o e).1, fun b hb => ?_, nxt⟩
      · rw [← same8] at e
        exact (wipe_some e).1
      · obtain
            ⟨o, e, _⟩ := T.obj _ _ st7 b hb
        exact (kept b hb o e).2
  subst hce hs4
  exact codeAny_compStart_dict body (T.self X.A 0 _ _ _ st4 body)
end
section
variable {X : Cx}
def rSortDT (K : PySem.W.Frag) : List V → Hp → VK → Prop := fun vs H Q => ∃ (a : Addr) (rows : List (List Key × V)) (L : List (List Int)), vs = [V.ref a] ∧ H a = some (.dT rows) ∧ rows.map (·.1) = L.map (fun l => l.map Sum.inl) ∧ (∀ n ∈ L, n ≠ []) ∧
  ∀ (ys : List V) (p : Addr), TLs K H ys (srtT L) → H p = none → Q (.ref p) (upd H p (.lst ys))
theorem kt_refs {H : Hp} {K : PySem.W.Frag} : ∀ {rows : List (List Key × V)} {recs : List (List Key × Addr × Value)} {L : List (List Int)}, KT H rows recs → rows.map (·.1) = L.map (fun l => l.map Sum.inl) → TLs K H (recs.map fun x => V.ref x.2.1) L
  | _, _, [], .nil, _ => .nil
  | _, _, _ :: _, .nil, e => by simp at e
  | _, _, [], .cons _ _, e => by simp at e
  | _, _, n :: L, .cons h t, e => by
    simp
        only [List.map_cons, List.cons.injEq] at e
    obtain ⟨e1, e2⟩ := e
    refine .cons ⟨_, rfl, ?_⟩ (kt_refs t e2)
    have z := h.2.1
    rw [e1, List.map_map] at z
    exact z
theorem cr_sortDT (hc : X.calm = true) : CallR X (.builtin "sorted") (rSortDT X.K) := by
  intro
      pins s σ H vs us Q I r h
  obtain ⟨a, rows, L, rfl, hd, hL, hne, q⟩ := h
  rw [Vals.ref1 r]
  obtain ⟨z, hsys, recs, rel, o, es, ep, ho, c1, c2, c3, _, c5⟩ := dt_of I.hok hd
  have l1 : es.size = recs.length := size_of_entries c3
  have l2 : rows.length = recs.length := Paired.length rel
  refine
      Calls.call_function_entry kind_sorted plain_sorted entry_sorted (args_sorted1 _) ?_
  unfold Builtin.«sorted»
  refine wpAny_bind (m := checkCount "sorted" 1 1 _) (wpAny_pure (wpAny_bind (PySem.W.kdu_collect (A := X.A.in1) (kdl_raw hsys c1 c2) (I.ok.hd hc) ho (by omega) fun h1 tk acc kept items => ?_)))
  have eacc : acc.toList = recs.map fun x => Value.ref x.2.1 := by
    apply List.ext_getElem?
    intro j
    rw [List.getElem?_map]
    cases hj : acc.toList[j]? with
    | none =>
      have
          h1 := List.getElem?_eq_none_iff.mp hj
      rw [Array.length_toList, items.1] at h1
      rw [List.getElem?_eq_none (by omega)]; rfl
    | some v =>
      obtain ⟨en, hen, hv⟩ := items.2 j v (by rw [← Array.getElem?_toList]; exact hj)
      have qe := entry_at c3 j
      rw [hen] at qe
      cases hb : recs[j]? with
      | none => rw [hb] at qe; cases qe
      | some b =>
        rw [hb] at qe
        cases qe
        rw [hv]; rfl
  have tl := kt_refs (K := X.K) rel hL
  have I1 : Inv X pins σ H { s with heap := h1, toks := tk } := I.kept kept
  have hal : acc.toList.length = recs.length := by rw [eacc, List.length_map]
  have hline : acc.toList.length ≤ sizeLine := by omega
  refine wpAny_bind (wpAny_newList ?_ hline)
  have hoL : (h1.push (seqObj "list" acc.toList.toArray 0)).get? h1.objs.size = some (seqObj "list" acc.toList.toArray 0) := Heap.get?_push_size _ rfl
  let kf : Value → List Int := TS.intsOf h1
  have raw : ∀ v ∈ acc.toList, ∃ t n, v = Value.ref t ∧ n ∈ L ∧ TupH H (.ref t) n ∧ TS.TupInts h1 v n := fun v hv => by
    rw [eacc] at hv
    obtain ⟨x, hx, rfl⟩ := List.mem_map.mp hv
    obtain ⟨n, hn, t, e, ht⟩ := tl.mem _ (List.mem_map.mpr ⟨x, hx, rfl⟩)
    cases e
    exact ⟨_, n, rfl, hn, ⟨_, rfl, ht⟩, tupI_raw I1 (SqT.of ht)⟩
  have ok1 : TsOk h1 kf acc.toList := fun v hv => by
    obtain ⟨t, n, _, hn, _, ti⟩ := raw v hv
    have e : kf v = n := ti.ints
    rw [e]; exact ⟨ti, hne n hn⟩
  have eL : acc.toList.map kf = L := by
    have h2 : L = (recs.map fun x => V.ref x.2.1).map (fun x => match x with
      | .ref a => TS.intsOf h1 (.ref a)
      | _ => []) := tl.map fun x n ht => by
        obtain ⟨t, rfl, ht⟩ := ht
        exact (tupI_raw I1 (SqT.of ht)).ints
    rw [h2, eacc, List.map_map, List.map_map]; rfl
  refine wpAny_bind (wpAny_holding (wpAny_call_entry slot_list_sort ⟨_, hoL, rfl⟩ entry_list_sort (SrtO.list_sort_ord (s := { s with heap := h1.push (seqObj "list" acc.toList.toArray 0), toks := tk }) (lx_swoV kf) hoL hline (fun h2 => ?_) fun out so st => ⟨_, rfl, ?_⟩) (args_list_sort _)))
  · refine ts_sortable (by omega) (ok1.keeps fun b o e _ => Heap.get?_push_of_some _ e) fun o e => ?_
    obtain rfl := Option.some.inj (e.symm.trans hoL)
    exact fun c => absurd (Value.type.inj c) (by decide)
  · obtain ⟨e', he'⟩ := sortedHeap_at (vs := acc.toList) (out := out.toArray) hoL
    have h3 : ∀ u ∈ out, ∃ a, u = Value.ref a := fun u hu => by
      obtain ⟨t, _, e, _⟩ := raw u (st.perm.mem_iff.mp hu)
      exact ⟨t, e⟩
    have hlen : (out.map bkV).length ≤ sizeLine := by rw [List.length_map, st.perm.length_eq]; exact hline
    have ho : out.map kf = srtT L := by
      refine srt_uniq (List.pairwise_map.mpr so) (srtT_srt L) ?_
      rw [← eL]
      exact (st.perm.map kf).trans (srtT_perm _).symm
    refine wpAny_pure ⟨_, rfl, .ref h1.objs.size, upd H h1.objs.size (.lst (out.map bkV)), I1.laid (t' := tk) (fun b u e => ?_) (Nat.le_refl _) ⟨hlen, out, e', bkV_vals h3, he'⟩, rfl, q _ _ ?_ (I1.hok.fresh (Nat.le_refl _))⟩
    · have lt : b < h1.objs.size := Heap.lt_size e
      rw [sortedHeap_old (Nat.ne_of_lt lt) (by rw [PyProof.Rows.size_push']; exact Nat.lt_succ_of_lt lt)]
      exact
          Heap.get?_push_of_some _ e
    · rw [← ho]
      have : ∀ l : List Value, (∀ u ∈ l, u ∈ acc.toList) → TLs X.K H (l.map bkV) (l.map kf) := fun l => by
        induction l with
        | nil => exact fun _ => .nil
        | cons u l ih =>
          intro h
          obtain ⟨t, n, rfl, _, tt, ti⟩ := raw u (h u List.mem_cons_self)
          have e : kf (.ref t) = n := ti.ints
          refine .cons ?_ (ih fun y hy => h y (List.mem_cons_of_mem _ hy))
          rw [e]; exact tt
      exact this out fun u hu => st.perm.mem_iff.mp hu
end
end Pur

/-! PurSum: sum of a tuple of ints. -/
namespace Pur
open
    PySem PySem.Spec PyProof.Rows L2
section
variable
    {prog : Program} {w : World} {A : Around} {E : Value → Shared → Prop} {s : Shared}
theorem sum_tup {t : Addr} {its : List Value} {ns : List Int} {Q : Value → Shared → Prop} (hh : A.handled = none) (ht : s.heap.IsTuple t its.toArray) (hi : IntsAre its ns)
    (h : ∀ h' tk t', (∀ b o, s.heap.get? b = some o → h'.get? b = some o) → Q (.int ns.sum t') { s with heap := h', toks := tk }) : wpAny (model prog w) A (call (.builtin "sum") [.ref t]) Q E s := by
  obtain
      ⟨xs, e⟩ := hi.allInts.items
  have
      hn : numsOf (intItems xs).toList = ns := by rw [← e]; exact hi.numsOf
  rw [nums_intItems] at hn
  rw [e] at ht
  have lt : t < s.heap.objs.size := by obtain ⟨_, ho, _⟩ := id ht; exact Heap.lt_size ho
  refine call_sum_walkG (wpAny_pyIter_tuple ht ?_)
  refine ⟨_, _, _, _, _, _, numAt xs, rfl, Walks.tuple (A := A.in1) hh s.heap.objs.size t (Nat.ne_of_lt lt) (intItems xs), ⟨⟨_, Heap.get?_push_size _ rfl, rfl, rfl⟩, ht.at fun o e => Heap.get?_push_of_some _ e⟩, fun b hb => ?_, fun _ _ => intItems_at, fun h' tk t' hk => ?_⟩
  · show
        b < (s.heap.push _).objs.size
    rw [Heap.size_push]
    rcases
        List.mem_cons.mp hb with rfl | hb
    · exact Nat.lt_succ_self _
    · rw [List.mem_singleton.mp hb]; exact Nat.lt_succ_of_lt lt
  · have := h h' tk t' fun b o e => hk b o (fun z => Nat.ne_of_lt (Heap.lt_size e) (List.mem_singleton.mp z)) (Heap.get?_push_of_some _ e)
    have e2 : preSum (numAt xs) (intItems xs).size = ns.sum := by
      rw [preSum_eq, List.take_of_length_le (by simp [intItems]), hn]
    rw [e2]; exact this
end
section
variable {X : Cx}
def rSumT (K : PySem.W.Frag) : List V → Hp → VK → Prop := fun vs H Q => ∃ (a : Addr) (ns : List Int), vs = [V.ref a] ∧ SqT K H a (ns.map V.int) ∧ Q (.int ns.sum) H
theorem cr_sumT (hc : X.calm = true) : CallR X (.builtin "sum") (rSumT X.K) := by
  intro
      pins s σ H vs us Q I r h
  obtain
      ⟨a, ns, rfl, hs, q⟩ := h
  obtain ⟨its, rv, hT, hz⟩ := I.tuple hs
  rw [Vals.ref1 r]
  refine sum_tup (I.ok.hd hc) hT rv.ints fun h' tk t' k => ?_
  exact ⟨.int ns.sum, H, I.kept k, ⟨t', rfl⟩, q⟩
end
end Pur

/-! PurSet: set(xs) of up to 300 tuples of ints: the table with masks up to 511. -/
namespace Pur
open
    PySem PySem.Spec PyProof.Rows L2

/-! ### i -> 5 i + 1 meets all places, for the mask 511 too -/
def orb (m : Nat) : Nat → Nat → Nat → Nat
  | 0, _, acc => acc
  | n + 1, i, acc => orb m n ((i * 5 + 1) % (m + 1)) (acc ||| 1 <<< i)
theorem orb_has (m j : Nat) : ∀ (n a acc : Nat), (orb m n (lcgN m a) acc).testBit j = true → acc.testBit j = true ∨ ∃ b, b < a + n ∧ lcgN m b = j
  | 0, a, acc, h => .inl h
  | n + 1, a, acc, h => by
    have h : (orb m n (lcgN m (a + 1)) (acc ||| 1 <<< lcgN m a)).testBit j = true := h
    rcases orb_has m j n (a + 1) _ h with h | ⟨b, hb, e⟩
    · rw [Nat.testBit_or, Bool.or_eq_true] at h
      rcases h with h | h
      · exact .inl h
      · rw [Nat.one_shiftLeft, Nat.testBit_two_pow] at h
        exact .inr ⟨a, by omega, by simpa using h⟩
    · exact .inr ⟨b, by omega, e⟩
set_option exponentiation.threshold 600 in
theorem orb_511 : orb 511 512 0 0 = 2 ^ 512 - 1 := by decide +kernel
set_option exponentiation.threshold 600 in
theorem met_511 {j : Nat} (hj : j ≤ 511) : ∃ b, b ≤ 511 ∧ lcgN 511 b = j := by
  have h : (orb 511 512 (lcgN 511 0) 0).testBit j = true := by
    show (orb 511 512 0 0).testBit j = true
    rw [orb_511, Nat.testBit_two_pow_sub_one]
    simp; omega
  rcases orb_has 511 j 512 0 0 h with z | ⟨b, hb, e⟩
  · simp at z
  · exact ⟨b, by omega, e⟩
theorem round_511 : lcgN 511 512 = 0 := by decide +kernel
theorem again_511 : ∀ k, lcgN 511 (512 + k) = lcgN 511 k
  | 0 => round_511
  | k + 1 => congrArg (fun x => (x * 5 + 1) % 512) (again_511 k)
/-- the masks -/
inductive Msk : Nat → Prop where
  | old {m : Nat} (h : MaskOk m) : Msk m
  | big : Msk 511
theorem Msk.orbit {m : Nat} (M : Msk m) {i j : Nat} (hi : i ≤ m) (hj : j ≤ m) : ∃ k, k ≤ m ∧ lcgI m i k = j := by
  cases M with
  | old h => exact lcgI_all h hi hj
  | big =>
    obtain ⟨a, ha, rfl⟩ := met_511 hi
    obtain ⟨b, hb, rfl⟩ := met_511 hj
    by_cases c : a ≤ b
    · exact ⟨b - a, by omega, by rw [lcgN_add]; congr 1; omega⟩
    · refine ⟨512 + b - a, by omega, ?_⟩
      rw [lcgN_add, ← again_511 b]
      congr 1; omega
theorem Msk.run {m : Nat} (M : Msk m) (h : Int) {j : Nat} (hj : j ≤ m) : ∃ n, n ≤ m + 12 ∧ runI m (SetTable.bits h) n = j := by
  obtain ⟨k, hk, e⟩ := M.orbit (runI_le m (SetTable.bits h) 12) hj
  exact ⟨12 + k, by omega, (runI_tail (bits_lt h) k).trans e⟩
theorem Msk.odd {m : Nat} (M : Msk m) : m % 2 = 1 := by
  cases M with
  | old h => exact mask_odd h
  | big => rfl
theorem Msk.le {m : Nat} (M : Msk m) : m ≤ 511 := by
  cases M with
  | old h => rcases h with e | e | e <;> omega
  | big => exact Nat.le_refl _
theorem way_low (m : Nat) (h : Int) (k : Nat) : way m h k ≤ m := by
  have
      hi : SetTable.bits h % (m + 1) ≤ m := Nat.le_of_lt_succ (Nat.mod_lt _ (Nat.succ_pos _))
  have r := runEnd_bd hi
  have q := nth_in (m := m) k (runAt m (SetTable.bits h % (m + 1)) (SetTable.bits h)) (by simp only [runAt]; omega)
  exact Nat.le_trans (Nat.le_add_right _ _) q
theorem Msk.meets {m : Nat} (M : Msk m) (h : Int) {j : Nat} (hj : j ≤ m) : ∃ k, k < 10 * SetTable.turns m ∧ way m h k = j := by
  obtain ⟨n, hn, rfl⟩ := M.run h hj
  obtain ⟨k, hk, e⟩ := run_nth m (SetTable.bits h) n
  exact ⟨k, by unfold SetTable.turns; omega, congrArg SetTable.Probe.j e⟩
/-- what is free first on the way of a hash -/
def Fst (occ : Nat → Prop) (m : Nat) (h : Int) (K : Nat) : Prop := ¬ occ (way m h K) ∧ ∀ k, k < K → occ (way m h k)
theorem fst_of {occ : Nat → Prop} {m : Nat} {h : Int} {k : Nat} (hk : ¬ occ (way m h k)) : ∃ K, K ≤ k ∧ Fst occ m h K := by
  obtain ⟨K, h1, h2, h3⟩ := st_least (p := fun k => ¬ occ (way m h k)) k hk
  exact ⟨K, h1, h2, fun k' c => Classical.byContradiction (h3 k' c)⟩

/-! ### the table -/
/-- each hash is found again on its way -/
structure Tb (t : SetTable) (hs : List Int) : Prop where
  asc : Ris t.place.toList
  dm : t.dummies = #[]
  num : t.place.toList.length = hs.length
  msk : Msk t.mask
  low : ∀ x ∈ t.place.toList, x ≤ t.mask
  on : ∀ (i : Nat) (h : Int) (j : Nat), hs[i]? = some h → t.place.toList[i]? = some j → ∃ k, way t.mask h k = j ∧ ∀ k', k' < k → way t.mask h k' ∈ t.place.toList
theorem Tb.free {t : SetTable} {hs : List Int} (T : Tb t hs) (hl : hs.length ≤ t.mask) (h : Int) : ∃ K, K < 10 * SetTable.turns t.mask ∧ Fst (· ∈ t.place.toList) t.mask h K := by
  obtain ⟨j, hj, hn⟩ := st_missing t.place.toList (t.mask + 1) (by rw [T.num]; omega)
  obtain ⟨k, hk, rfl⟩ := T.msk.meets h (Nat.le_of_lt_succ hj)
  obtain ⟨K, h1, h2⟩ := fst_of (occ := (· ∈ t.place.toList)) hn
  exact ⟨K, Nat.lt_of_le_of_lt h1 hk, h2⟩
theorem Tb.ahead {t : SetTable} {hs : List Int} (T : Tb t hs) {h : Int} {K i j : Nat} (F : Fst (· ∈ t.place.toList) t.mask h K) (hi : hs[i]? = some h) (hj : t.place.toList[i]? = some j) : ∃ k, k < K ∧ way t.mask h k = j := by
  obtain ⟨k, rfl, hb⟩ := T.on i h j hi hj
  refine ⟨k, Classical.byContradiction fun c => F.1 ?_, rfl⟩
  rcases Nat.lt_or_ge K k with z | z
  · exact hb K z
  · have : k = K := by omega
    exact this ▸ List.mem_of_getElem? hj
/-- a hash put in where its way is free first -/
theorem Tb.put {t t1 : SetTable} {hs : List Int} {p : Nat} (T : Tb t hs) {h : Int} {K : Nat} (F : Fst (· ∈ t.place.toList) t.mask h K) (e : t.put (way t.mask h K) = (t1, p)) :
    p = SetTable.below t.place (way t.mask h K) ∧ p ≤ hs.length ∧ Tb t1 (hs.take p ++ h :: hs.drop p) ∧ t1.mask = t.mask ∧ t1.led = t.led ∧ t1.plain = t.plain ∧ t1.fill = hs.length + 1 := by
  obtain ⟨c1, _, _⟩ := below_cut T.asc (way t.mask h K)
  have e1 : t1 = (t.put (way t.mask h K)).1 := by rw [e]
  have e2 : SetTable.below t.place (way t.mask h K) = p := congrArg Prod.snd e
  have hpl : p ≤ t.place.toList.length := by rw [← e2, Array.length_toList]; exact c1
  have hph : p ≤ hs.length := T.num ▸ hpl
  have hpp : t1.place.toList = t.place.toList.take p ++ way t.mask h K :: t.place.toList.drop p := by rw [e1, ← e2]; exact put_place t _
  have hn : t.place[SetTable.below t.place (way t.mask h K)]? ≠ some (way t.mask h K) := fun z => F.1 (List.mem_of_getElem? (by rw [Array.getElem?_toList]; exact z))
  have em : t1.mask = t.mask := by rw [e1]; rfl
  have hd : t1.dummies = #[] := by rw [e1]; exact put_dm T.dm _
  have num1 : t1.place.toList.length = hs.length + 1 := by rw [hpp, len_ins _ hpl, T.num]
  have up : ∀ {x : Nat}, x ∈ t.place.toList → x ∈ t1.place.toList := fun hx => by rw [hpp]; exact mem_ins.2 (.inr hx)
  refine ⟨e2.symm, hph, ⟨?_, hd, by rw [num1, len_ins _ hph], em ▸ T.msk, fun x hx => ?_, fun i h' j' h1 h2 => ?_⟩, em, by rw [e1]; rfl, by rw [e1]; rfl, ?_⟩
  · rw [e1]; exact ris_insert T.asc hn
  · rw [em]
    rw [hpp] at hx
    rcases mem_ins.1 hx with rfl | z
    · exact way_low _ _ _
    · exact T.low x z
  · rw [em]
    have old : ∀ i, hs[i]? = some h' → t.place.toList[i]? = some j' → ∃ k, way t.mask h' k = j' ∧ ∀ k', k' < k → way t.mask h' k' ∈ t1.place.toList := fun i a b => by
      obtain ⟨k, z1, z2⟩ := T.on i h' j' a b
      exact ⟨k, z1, fun k' hk => up (z2 k' hk)⟩
    rw [tins_get hs hph] at h1
    rw
        [hpp, tins_get _ hpl] at h2
    by_cases c : i < p
    · rw [if_pos c] at h1 h2
      exact old i h1 h2
    · rw [if_neg c] at h1 h2
      by_cases d : i = p
      · rw [if_pos d] at h1 h2
        cases h1; cases h2
        exact ⟨K, rfl, fun k' hk' => up (F.2 k' hk')⟩
      · rw [if_neg d] at h1 h2
        exact old _ h1 h2
  · show t1.place.size + t1.dummies.size = _
    rw [hd, ← Array.length_toList, num1]; rfl

/-! ### laid anew -/
theorem oat_set {ow : Array (Option Nat)} {j : Nat} (v : Nat) (hj : j < ow.size) (i : Nat) : oAt (ow.setIfInBounds j (some v)) i = if i = j then some v else oAt ow i := by
  by_cases c : i = j
  · rw [if_pos c, c]; exact oAt_set_self _ hj
  · rw [if_neg c]; exact oAt_set_ne _ c
/-- one more hash is laid -/
theorem own_next {m : Nat} (M : Msk m) {done : List Int} {ow : Array (Option Nat)} (W : Own m done ow) (hl : done.length ≤ m) (h : Int) :
    ∃ j, SetTable.layClean.free m ow (SetTable.turns m) (SetTable.bits h % (m + 1)) (SetTable.bits h) = some j ∧ Own m (done ++ [h]) (ow.setIfInBounds j (some done.length)) := by
  obtain ⟨ps, hps, hin⟩ := W.ps
  obtain
      ⟨j0, h0, hn0⟩ := st_missing ps (m + 1) (by omega)
  have hj0 : oAt ow j0 = none := by
    cases z : oAt ow j0 with
    | none => rfl
    | some k => exact absurd (hin j0 (by omega) (by rw [z]; simp)) hn0
  obtain ⟨n, hn, e⟩ := M.run h (Nat.le_of_lt_succ h0)
  have hoff : way m h (off m (SetTable.bits h % (m + 1)) (SetTable.bits h) n) = j0 := by
    unfold way
    rw [nth_off, itL_run]; exact e
  obtain ⟨K, hK, F⟩ := fst_of (occ := fun j => oAt ow j ≠ none) (m := m) (h := h) (k := off m (SetTable.bits h % (m + 1)) (SetTable.bits h) n) (by rw [hoff, hj0]; simp)
  have free : oAt ow (way m h K) = none := Classical.byContradiction F.1
  have hlow := way_low m h K
  have hsz : way m h K < ow.size := by rw [W.sz]; omega
  refine ⟨way m h K, free_spec m ow (SetTable.turns m) n _ _ K (by unfold SetTable.turns; omega) hK (fun k hk => ?_) (by rw [free]; rfl), ?_⟩
  · have := F.2 k hk
    cases z : oAt ow (way m h k) with
    | none => exact absurd z this
    | some _ => rfl
  have keep : ∀ {i : Nat}, oAt ow i ≠ none → oAt (ow.setIfInBounds (way m h K) (some done.length)) i ≠ none := fun hi => by
    rw [oat_set _ hsz]
    split
    · simp
    · exact hi
  refine ⟨by rw [Array.size_setIfInBounds]; exact W.sz, fun j k hj z => ?_, fun k hk => ?_, way m h K :: ps, by simp [hps], fun j hj z => ?_⟩
  · rw [oat_set _ hsz] at z
    split at z
    · rename_i c
      cases z
      exact ⟨h, K, by simp, c.symm, fun k' hk' => keep (F.2 k' hk')⟩
    · obtain ⟨h', K', a1, a2, a3⟩ := W.at_ j k hj z
      exact ⟨h', K', by rw [List.getElem?_append_left (List.getElem?_eq_some_iff.mp a1).1]; exact a1, a2, fun k' hk' => keep (a3 k' hk')⟩
  · rw
        [List.length_append, List.length_singleton] at hk
    by_cases c : k < done.length
    · obtain ⟨j, hj, z⟩ := W.all k c
      refine ⟨j, hj, ?_⟩
      rw [oat_set _ hsz, if_neg (fun e => by rw [e, free] at z; cases z)]
      exact z
    · refine ⟨way m h K, hlow, ?_⟩
      rw [oat_set _ hsz, if_pos rfl]
      congr 1; omega
  · rw [oat_set _ hsz] at z
    split at z
    · rename_i c; rw [c]; exact List.mem_cons_self
    · exact List.mem_cons_of_mem _ (hin j hj z)
theorem own_all {m : Nat} (M : Msk m) : ∀ (rest done : List Int) (ow : Array (Option Nat)), Own m done ow → done.length + rest.length ≤ m →
    ∃ ow' n, rest.foldl (stepF m) (some (ow, done.length)) = some (ow', n) ∧ Own m (done ++ rest) ow'
  | [], done, ow, W, _ => ⟨ow, done.length, rfl, by rw [List.append_nil]; exact W⟩
  | h :: rest, done, ow, W, hl => by
    rw [List.length_cons] at hl
    obtain ⟨j, e, W'⟩ := own_next M W (by omega) h
    obtain ⟨ow', n, f, W2⟩ := own_all M rest (done ++ [h]) _ W' (by simp; omega)
    refine ⟨ow', n, ?_, by simpa using W2⟩
    rw
        [List.foldl_cons, stepF_some e]
    simpa using f
/-- the new table, the rows' new order -/
theorem tb_relaid (t : SetTable) {hs : Array Int} {wanted M : Nat} (hw : SetTable.sizeAbove wanted - 1 = M) (hM : Msk M) (hn : hs.size ≤ M) :
    ∃ t' order, t.relaid hs wanted = some (t', order) ∧ order.toList.Perm (List.range hs.size) ∧ Tb t' (order.toList.map fun i => hs.getD i 0) ∧ t'.mask = M ∧ t'.led = t.led ∧ t'.plain = t.plain := by
  obtain ⟨ow, n, f, W⟩ := own_all hM hs.toList [] _ (Own.init M) (by simpa using hn)
  rw [List.nil_append] at W
  have lay : SetTable.layClean M hs = some ow := by
    have f : hs.toList.foldl (stepF M) (some (Array.replicate (M + 1) none, 0)) = some (ow, n) := f
    rw [layClean_eq, f]; rfl
  obtain ⟨r1, r2⟩ := ris_live (fun j => ow.getD j none) (List.range (M + 1)) (by unfold Ris; exact List.pairwise_lt_range)
  have r1 : Ris ((liveOf M ow).map (·.1)) := r1
  have r2 : ∀ x ∈ (liveOf M ow).map (·.1), x ∈ List.range (M + 1) := r2
  have has : ∀ k, k < hs.size → k ∈ (liveOf M ow).map (·.2) := fun k hk => by
    obtain ⟨j, b1, b2⟩ := W.all k (by simpa using hk)
    exact
        List.mem_map.mpr ⟨(j, k), (mem_live W.sz).2 ⟨b1, b2⟩, rfl⟩
  have hlen : (liveOf M ow).length = hs.size := by
    obtain ⟨ps, p1, p2⟩ := W.ps
    have nd : ((liveOf M ow).map (·.1)).Nodup := List.Pairwise.imp (fun h => Nat.ne_of_lt h) r1
    have a := nat_nodup_len ((liveOf M ow).map (·.1)) ps nd fun x hx => by
      obtain ⟨⟨y, k⟩, hq, rfl⟩ := List.mem_map.mp hx
      obtain
          ⟨b1, b2⟩ := (mem_live W.sz).1 hq
      exact p2 y b1 (by rw [b2]; simp)
    have b := nat_nodup_len (List.range hs.size) ((liveOf M ow).map (·.2)) List.nodup_range fun k hk => has k (List.mem_range.mp hk)
    simp only [List.length_map, List.length_range, p1] at a b
    have : hs.toList.length = hs.size := rfl
    omega
  refine ⟨tabOf t M ow, ((liveOf M ow).map (·.2)).toArray, by rw [relaid_eq, hw, lay]; rfl, perm_range hs.size _ (by simpa using hlen) fun k hk => by simpa using has k hk, ⟨r1, rfl, by simp [tabOf], hM, fun x hx => ?_, fun i h j h1 h2 => ?_⟩, rfl, rfl, rfl⟩
  · exact
        Nat.le_of_lt_succ (List.mem_range.mp (r2 x hx))
  · have h1 : (((liveOf M ow).map (·.2)).map fun i => hs.getD i 0)[i]? = some h := h1
    have h2 : ((liveOf M ow).map (·.1))[i]? = some j := h2
    cases hq : (liveOf M ow)[i]? with
    | none => simp [hq] at h2
    | some q =>
      obtain ⟨y, k⟩ := q
      simp only [List.getElem?_map, hq, Option.map_some, Option.some.injEq] at h1 h2
      subst h1 h2
      obtain
          ⟨b1, b2⟩ := (mem_live W.sz).1 (List.mem_of_getElem? hq)
      obtain
          ⟨h0, K, a1, a2, a3⟩ := W.at_ y k b1 b2
      have
          e0 : hs.getD k 0 = h0 := by
        rw [Array.getD_eq_getD_getElem?, ← Array.getElem?_toList, a1]; rfl
      rw [e0]
      refine
          ⟨K, a2, fun k' hk' => ?_⟩
      show way M h0 k' ∈ (liveOf M ow).map (·.1)
      cases z : oAt ow (way M h0 k') with
      | none =>
            exact absurd z (a3 k' hk')
      | some k2 => exact List.mem_map.mpr ⟨(way M h0 k', k2), (mem_live W.sz).2 ⟨way_low _ _ _, z⟩, rfl⟩

/-! ### the set -/
section
variable
    {P : Program} {w : World} {A : Around} {E : Value → Shared → Prop} {s : Shared}
structure Sg (P : Program) (w : World) (h : Heap) (a : Addr) (L : List (Addr × List Int)) (es : Array (Int × Value)) (ep : Nat) (t : SetTable) : Prop where
  ob
      : ∃ o, h.get? a = some o ∧ o.ExactSet ∧ o.data = .set es ep t
  rows
      : es.toList = rowsOf P w L
  tab : Tb t (L.map fun p => thash P w p.2)
  nd : (L.map (·.2)).Nodup
  tup
      : ∀ p ∈ L, IsT P w h p.2 p.1
  plain : t.plain = true
  led
      : w.params.followText "set-order" = true ∨ t.led = true
  room
      : L.length * 5 < t.mask * 3
theorem rows_len {es : Array (Int × Value)} {L : List (Addr × List Int)} (h : es.toList = rowsOf P w L) : es.size = L.length := by
  have
      := congrArg List.length h
  simpa [rowsOf] using this
variable
    {a : Addr} {L : List (Addr × List Int)} {es : Array (Int × Value)} {ep : Nat} {t : SetTable}
theorem fits_by (e1 : t.place.toList.length = es.size) (e2 : t.dummies = #[]) (e3 : es.size ≤ t.mask) : t.fits es.size = true := by
  unfold
      SetTable.fits SetTable.fill
  rw [e2, Bool.and_eq_true, beq_iff_eq, decide_eq_true_eq]
  rw
      [Array.length_toList] at e1
  exact ⟨e1, by rw [e1]; exact e3⟩
theorem Sg.fits (R : Sg P w s.heap a L es ep t) : t.fits es.size = true := by
  have h1 := rows_len R.rows
  have h2 := R.room
  exact fits_by (by rw [R.tab.num, List.length_map, h1]) R.tab.dm (by omega)
theorem Sg.row (R : Sg P w s.heap a L es ep t) {i : Nat} {p : Addr × List Int} (h : L[i]? = some p) : es[i]? = some (thash P w p.2, Value.ref p.1) := by
  rw [← Array.getElem?_toList, R.rows, rowsOf, List.getElem?_map, h]; rfl
theorem Sg.len (R : Sg P w s.heap a L es ep t) : L.length ≤ 306 := by
  have := R.tab.msk.le
  have := R.room
  omega
/-- the search's state behind c steps -/
abbrev stp (m : Nat) (h : Int) (c : Nat) : SetTable.Probe := nth m (runAt m (SetTable.bits h % (m + 1)) (SetTable.bits h)) c
theorem stp_add (m : Nat) (h : Int) (c q : Nat) : nth m (stp m h c) q = stp m h (c + q) := (nth_add m c _ q).symm
theorem stp_way (m : Nat) (h : Int) (c q : Nat) : (nth m (stp m h c) q).j = way m h (c + q) := congrArg SetTable.Probe.j (stp_add m h c q)
theorem stp_dummy (m : Nat) (h : Int) (c : Nat) : (stp m h c).dummy = none := by
  have all : ∀ (n : Nat) (p : SetTable.Probe), p.dummy = none → (nth m p n).dummy = none := fun n => by
    induction n with
    | zero => exact fun p h => h
    | succ n ih => exact fun p h => ih _ (by unfold adv; split <;> exact h)
  exact all c _ rfl
theorem search_go (R : Sg P w s.heap a L es ep t) {x : Addr} {k : List Int} (hx : IsT P w s.heap k x) (hu : A.units < cLine) {K : Nat} (hK : K < 10 * SetTable.turns t.mask) (F : Fst (· ∈ t.place.toList) t.mask (thash P w k) K) {Q : SetFound → Shared → Prop}
    (yes : k ∈ L.map (·.2) → Q (.there none) s) (no : k ∉ L.map (·.2) → Q (.free (way t.mask (thash P w k) K) false) s) :
    ∀ (f c : Nat) (stand : Option SetTable.Probe), stand.getD (t.probeStart (thash P w k)) = stp t.mask (thash P w k) c → c ≤ K → K < f + c →
      (∀
          (i : Nat) p, L[i]? = some p → p.2 = k → ∃ c', c ≤ c' ∧ c' < K ∧ t.place.toList[i]? = some (way t.mask (thash P w k) c')) →
      wpAny (model P w) A (setSearchFrom a (.ref x) (thash P w k) true f stand) Q E s := by
  obtain
      ⟨o, ho, hex, hd⟩ := R.ob
  have gone : ¬ t.gaveWay = true := by
    unfold SetTable.gaveWay
    rw [R.tab.msk.odd]; decide
  let hat : Nat → Int := fun i => (es[i]?.map (·.1)).getD 0
  have hash : ∀ (i : Nat) p, L[i]? = some p → hat i = thash P w p.2 := fun i p hp => by
    show
        (es[i]?.map (·.1)).getD 0 = _
    rw [R.row hp]; rfl
  intro f
  induction f with
  | zero => intro c _ _ h1 h2; omega
  | succ f ih =>
    intro c stand hst hc hf here
    rw [setSearchFrom_succ]
    refine
        wpAny_bind (wpAny_setState_of ho hd R.fits ?_)
    dsimp only
    refine wp_if_neg gone ?_
    have look := go_spec t R.tab.asc R.tab.dm hat (thash P w k) (10 * SetTable.turns t.mask) (K - c) (stp t.mask (thash P w k) c) (stp_dummy ..) (by omega) (fun q hq => by rw [stp_way]; exact F.2 _ (by omega)) (by rw [stp_way, Nat.add_sub_cancel' hc]; exact F.1)
    have past : ∀ q, (∀ k' i', k' < q → t.place.toList[i']? = some (nth t.mask (stp t.mask (thash P w k) c) k').j → hat i' ≠ thash P w k) → ∀ (i : Nat) p c', L[i]? = some p → p.2 = k → c ≤ c' → t.place.toList[i]? = some (way t.mask (thash P w k) c') → c + q ≤ c' := fun q hno i p c' h1 h2 h3 h4 => by
      refine Classical.byContradiction fun z => hno (c' - c) i (by omega) ?_ ((hash i p h1).trans (by rw [h2]))
      rw [stp_way, Nat.add_sub_cancel' h3]; exact h4
    rcases look with ⟨q, i, hq, hi, hh, hno, hpr⟩ | ⟨hno, hpr⟩
    · rw [stp_way] at hi
      have hpr : t.probe hat (thash P w k) (stand.getD (t.probeStart (thash P w k))) = some (.candidate (way t.mask (thash P w k) (c + q)) i (stp t.mask (thash P w k) (c + (q + 1)))) := by
        rw [hst, ← stp_way, ← stp_add]; exact hpr
      rw [show t.probe (fun i => (es[i]?.map (·.1)).getD 0) (thash P w k) (stand.getD (t.probeStart (thash P w k))) = _ from hpr]
      dsimp only
      have hil : i < L.length := by
        have h1 := (List.getElem?_eq_some_iff.mp hi).1
        rw [R.tab.num, List.length_map] at h1
        exact h1
      obtain ⟨p, hp⟩ : ∃ p, L[i]? = some p := ⟨_, List.getElem?_eq_getElem hil⟩
      have
          hmem : p ∈ L := List.mem_of_getElem? hp
      have hsl : t.slot (way t.mask (thash P w k) (c + q)) = .live i := slot_live R.tab.asc hi
      have rest : wpAny (model P w) A (searchRest a (.ref x) (thash P w k) true f es t (way t.mask (thash P w k) (c + q)) i (stp t.mask (thash P w k) (c + (q + 1)))) Q E s := by
        unfold searchRest
        rw [R.row hp]
        dsimp only
        refine wpAny_bind (wpAny_holding (wpAny_eqBool_tuple hu (R.tup p hmem) hx (wpAny_bind (wpAny_setState_of ho hd R.fits ?_))))
        dsimp only
        by_cases hk : p.2 = k
        · refine wp_if_pos (by simp [hk]) (wpAny_pure (yes ?_))
          exact List.mem_map.mpr ⟨p, hmem, hk⟩
        · refine wp_if_neg (by simp [hk]) ?_
          rw [sameMem]
          simp only [if_true, hsl, R.row hp]
          refine
              wpAny_bind (wpAny_isSame_ref_self (wpAny_bind (wpAny_pure ?_)))
          simp only [if_true]
          refine wp_if_neg (by simp [hk]) (ih (c + (q + 1)) _ rfl (by omega) (by omega) fun i0 p0 h0 hk0 => ?_)
          obtain ⟨c', a1, a2, a3⟩ := here i0 p0 h0 hk0
          have z := past q hno i0 p0 c' h0 hk0 a1 a3
          refine ⟨c', ?_, a2, a3⟩
          by_cases e : c' = c + q
          · rw [e] at a3
            have s0 := slot_live R.tab.asc a3
            rw [hsl] at s0
            cases s0
            rw [hp] at h0
            cases h0
            exact absurd hk0 hk
          · omega
      by_cases hl : t.led = true
      · exact wp_if_neg (by simp [hl]) rest
      · refine wp_if_pos (by simp [hl]) (wpAny_bind (seen_tup hx (fun y hy => ?_) (wp_if_neg (by decide) rest)))
        obtain ⟨e, he, rfl⟩ := List.mem_map.mp hy
        have he : e ∈ es.toList := by
          have he : e ∈ es ∧ e.1 = thash P w k := by simpa using he
          simpa using he.1
        rw [R.rows] at he
        obtain ⟨p2, hp2, rfl⟩ := List.mem_map.mp he
        exact ⟨p2.2, p2.1, rfl, R.tup p2 hp2⟩
    · have hpr : t.probe hat (thash P w k) (stand.getD (t.probeStart (thash P w k))) = some (.empty (way t.mask (thash P w k) K) none) := by
        have e2 : way t.mask (thash P w k) K = (nth t.mask (stp t.mask (thash P w k) c) (K - c)).j := by rw [stp_way, Nat.add_sub_cancel' hc]
        rw [hst, e2]; exact hpr
      rw [show t.probe (fun i => (es[i]?.map (·.1)).getD 0) (thash P w k) (stand.getD (t.probeStart (thash P w k))) = _ from hpr]
      dsimp only
      refine wpAny_pure (no fun hm => ?_)
      obtain
          ⟨p0, h0, hk0⟩ := List.mem_map.mp hm
      obtain ⟨i0, h00⟩ := List.getElem?_of_mem h0
      obtain ⟨c', a1, a2, a3⟩ := here i0 p0 h00 hk0
      have := past _ hno i0 p0 c' h00 hk0 a1 a3
      omega
theorem search_in (R : Sg P w s.heap a L es ep t) {x : Addr} {k : List Int} (hx : IsT P w s.heap k x) (hu : A.units < cLine) {Q : SetFound → Shared → Prop}
    (yes : k ∈ L.map (·.2) → Q (.there none) s) (no : ∀ K, k ∉ L.map (·.2) → Fst (· ∈ t.place.toList) t.mask (thash P w k) K → Q (.free (way t.mask (thash P w k) K) false) s) :
    wpAny
        (model P w) A (setSearch a (.ref x) (thash P w k) true) Q E s := by
  have hroom := R.room
  obtain ⟨K, hK, F⟩ := R.tab.free (by rw [List.length_map]; omega) (thash P w k)
  have hbig : K < 100000 := by
    have := R.tab.msk.le
    unfold SetTable.turns at hK
    omega
  unfold setSearch
  refine search_go R hx hu hK F yes (fun hn => no K hn F) 100000 0 none rfl (Nat.zero_le _) (by omega) fun i p hp hk => ?_
  have hi : (L.map fun p => thash P w p.2)[i]? = some (thash P w k) := by rw [List.getElem?_map, hp, ← hk]; rfl
  have
      hil : i < t.place.toList.length := by
    rw [R.tab.num, List.length_map]; exact (List.getElem?_eq_some_iff.mp hp).1
  have
      hj := List.getElem?_eq_getElem hil
  obtain ⟨c, hc, e⟩ := R.tab.ahead F hi hj
  exact
      ⟨c, Nat.zero_le _, hc, by rw [hj, e]⟩
end

section
variable
    {P : Program} {w : World} {A : Around} {E : Value → Shared → Prop} {s : Shared}
variable
    {a : Addr} {L : List (Addr × List Int)} {es : Array (Int × Value)} {ep : Nat} {t : SetTable}
/-- the table grows -/
theorem relay_in {o : Obj} (ho : s.heap.get? a = some o) (hex : o.ExactSet) (hd : o.data = .set es ep t) (hrows : es.toList = rowsOf P w L) (T : Tb t (L.map fun p => thash P w p.2)) (hfl : L.length ≤ t.mask)
    (nd : (L.map (·.2)).Nodup) (tup : ∀ p ∈ L, IsT P w s.heap p.2 p.1) (pl : t.plain = true) (ld : w.params.followText "set-order" = true ∨ t.led = true)
    {wanted M : Nat} (hw : SetTable.sizeAbove wanted = M + 1) (hM : Msk M) (hn : L.length * 5 < M * 3) {Q : Unit → Shared → Prop}
    (hQ : ∀ h' L' es' ep' t', Heap.SameBut a s.heap h' → Sg P w h' a L' es' ep' t' → L'.Perm L → Q () { s with heap := h' }) : wpAny (model P w) A (setRelay a wanted) Q E s := by
  have hsl := rows_len hrows
  have hM5 := hM.le
  obtain ⟨t', order, e, hp, T', em, el, ep'⟩ := tb_relaid t (hs := es.map (·.1)) (wanted := wanted) (M := M) (by rw [hw]; rfl) hM (by rw [Array.size_map, hsl]; omega)
  rw
      [Array.size_map, hsl] at hp
  obtain
      ⟨L2, r1, r2, r3⟩ := order_rows L es order hrows hp
  rw [← r3] at T'
  have hs2 : (order.filterMap (es[·]?)).size = es.size := by rw [rows_len r1, r2.length_eq, hsl]
  rw [setRelay_eq]
  refine wpAny_bind (wpAny_setState_of ho hd (fits_by (by rw [T.num, List.length_map, hsl]) T.dm (by omega)) ?_)
  dsimp only
  refine wp_if_neg (by rw [hw, sizeLine_eq]; omega) ?_
  rw [e]
  dsimp only
  refine wpAny_bind (wp_if_neg (by rw [hs2]; simp) (wpAny_pure ?_))
  dsimp only
  refine
      wpAny_storeSet_of ho hd ?_ (by rw [hs2, hsl, sizeLine_eq]; omega)
  have
      sb : Heap.SameBut a s.heap (s.heap.update a (Obj.putSet (order.filterMap (es[·]?)) t')) := Heap.SameBut.update ..
  exact hQ _ L2 _ (ep + 1) t' sb ⟨⟨_, store_at ho hd, ⟨hex.1, hex.2.1, hex.2.2⟩, rfl⟩, r1, T', (r2.map (·.2)).nodup_iff.mpr nd, fun p hpm => isT_same (tup p (r2.mem_iff.mp hpm)) ho hd sb, by rw [ep']; exact pl, by rw [el]; exact ld, by rw [r2.length_eq, em]; exact hn⟩ r2
/-- how the masks grow -/
theorem Msk.next {m n : Nat} (M : Msk m) (h1 : n * 5 < m * 3) (h2 : m * 3 ≤ (n + 1) * 5) (hf : n + 1 < 307) : ∃ m', Msk m' ∧ SetTable.sizeAbove (SetTable.grown (n + 1)) = m' + 1 ∧ (n + 1) * 5 < m' * 3 ∧ n + 1 ≤ m := by
  cases M with
  | old h =>
    rcases h with e | e | e
    · have : n = 4 := by omega
      subst this e
      exact ⟨31, .old (.inr (.inl rfl)), by decide +kernel, by decide, by decide⟩
    · have : n = 18 := by omega
      subst this e
      exact ⟨127, .old (.inr (.inr rfl)), by decide +kernel, by decide, by decide⟩
    · have : n = 76 := by omega
      subst this e
      exact ⟨511, .big, by decide +kernel, by decide, by decide⟩
  | big => omega
theorem add_in (R : Sg P w s.heap a L es ep t) {x : Addr} {k : List Int} (hx : IsT P w s.heap k x) (hu : A.units < cLine) (hfew : L.length + 1 < 307) {Q : Bool → Shared → Prop}
    (hQ : ∀ b h' L' es' ep' t', Heap.SameBut a s.heap h' → Sg P w h' a L' es' ep' t' → (k ∈ L.map (·.2) → L' = L) → (k ∉ L.map (·.2) → L'.Perm ((x, k) :: L)) → Q b { s with heap := h' }) :
    wpAny
        (model P w) A (setAddHashed a (.ref x) (thash P w k)) Q E s := by
  obtain
      ⟨o, ho, hex, hd⟩ := R.ob
  unfold setAddHashed
  refine wpAny_holding ?_
  rw
      [show (100000 : Nat) = 99999 + 1 from rfl, setAddHashedIn_succ]
  refine
      wpAny_bind (wpAny_setState_of ho hd R.fits ?_)
  dsimp only
  refine
      wp_if_neg (by simp [byScan, Value.scannable]) ?_
  refine wpAny_bind (search_in R hx hu (fun hm => wpAny_pure (hQ false s.heap L es ep t (Heap.SameBut.refl a s.heap) R (fun _ => rfl) fun z => absurd hm z)) fun K hm F => ?_)
  dsimp only
  refine
      wpAny_bind (wpAny_setState_of ho hd R.fits ?_)
  dsimp only
  obtain ⟨t1, p, hpt⟩ : ∃ t1 p, t.put (way t.mask (thash P w k) K) = (t1, p) := ⟨_, _, rfl⟩
  obtain ⟨e0, hp, T1, em, el, epl, efl⟩ := R.tab.put F hpt
  rw [hpt]
  dsimp only
  have hp1 : t1.plain = true := epl.trans R.plain
  first
    | (refine
          wpAny_bind ?_; refine wp_if_pos hp1 ?_; refine hashBy_tup hx ?_)
    | refine
          wp_if_pos hp1 (wpAny_bind (hashBy_tup hx ?_))
  simp only [if_true]
  have
      pm := put_perm L p (x, k)
  have hin : (SetTable.insertAt es p (thash P w k, Value.ref x)).toList = rowsOf P w (L.take p ++ (x, k) :: L.drop p) := by
    rw
        [SetTable.toList_insertAt, rows_put, R.rows]
  have eh : (L.take p ++ (x, k) :: L.drop p).map (fun p => thash P w p.2) = (L.map fun p => thash P w p.2).take p ++ thash P w k :: (L.map fun p => thash P w p.2).drop p := by simp
  rw [← eh] at T1
  rw [List.length_map] at efl
  have nd1 : ((L.take p ++ (x, k) :: L.drop p).map (·.2)).Nodup := (pm.map (·.2)).nodup_iff.mpr (List.nodup_cons.mpr ⟨hm, R.nd⟩)
  generalize SetTable.insertAt es p (thash P w k, Value.ref x) = es1 at hin ⊢
  generalize L.take p ++ (x, k) :: L.drop p = L1 at pm T1 nd1 hin
  have hlen : L1.length = L.length + 1 := pm.length_eq
  have hes := rows_len hin
  have hsz := rows_len R.rows
  refine
      wpAny_bind (wpAny_storeSet_of ho hd ?_ (by rw [hes, sizeLine_eq]; omega))
  have
      sb : Heap.SameBut a s.heap (s.heap.update a (Obj.putSet es1 t1)) := Heap.SameBut.update ..
  have
      ho1 := store_at (es' := es1) (t' := t1) ho hd
  generalize
      s.heap.update a (Obj.putSet es1 t1) = h1 at sb ho1 ⊢
  have
      tup1 : ∀ p ∈ L1, IsT P w h1 p.2 p.1 := fun p hp => by
    rcases List.mem_cons.mp (pm.mem_iff.mp hp) with rfl | hp
    · exact isT_same hx ho hd sb
    · exact
          isT_same (R.tup p hp) ho hd sb
  have ld1 : w.params.followText "set-order" = true ∨ t1.led = true := el ▸ R.led
  by_cases
      hf : t1.tooFull = true
  · have hfull : t.mask * 3 ≤ (L.length + 1) * 5 := by
      have h := hf
      unfold SetTable.tooFull at h
      rw [decide_eq_true_eq, efl, em] at h
      exact h
    obtain ⟨m', M', n1, n2, n3⟩ := R.tab.msk.next R.room hfull hfew
    have go : wpAny (model P w) A (setRelay a (SetTable.grown (es.size + 1))) (fun _ s' => wpAny (model P w) A (pure true) Q E s') E { s with heap := h1 } := by
      rw [hsz]
      exact relay_in (s := { s with heap := h1 }) ho1 ⟨hex.1, hex.2.1, hex.2.2⟩ rfl hin T1 (by rw [hlen, em]; exact n3) nd1 tup1 hp1 ld1 n1 M' (by rw [hlen]; exact n2)
        fun h2 L2 es2 ep2 t2 sb2 R2 pm2 => wpAny_pure (hQ true h2 L2 es2 ep2 t2 (sb.trans sb2) R2 (fun z => absurd z hm) fun _ => pm2.trans pm)
    first
      | exact wpAny_bind (wp_if_pos (by simp [hf]) go)
      | exact wp_if_pos (by simp [hf]) (wpAny_bind go)
  · have fin := hQ true h1 L1 es1 (ep + 1) t1 sb ⟨⟨_, ho1, ⟨hex.1, hex.2.1, hex.2.2⟩, rfl⟩, hin, T1, nd1, tup1, hp1, ld1, by
      have h := hf
      unfold SetTable.tooFull at h
      rw [decide_eq_true_eq, efl] at h
      omega⟩ (fun z => absurd z hm) fun _ => pm
    first
      | exact wp_if_neg (by simp [hf]) (wpAny_pure fin)
      | exact wpAny_bind (wp_if_neg (by simp [hf]) (wpAny_pure (wpAny_pure fin)))
theorem Sg.keep {h h' : Heap} (R : Sg P w h a L es ep t) (ha : ∀ o, h.get? a = some o → h'.get? a = some o) (ht : ∀ p ∈ L, IsT P w h' p.2 p.1) : Sg P w h' a L es ep t := by
  obtain ⟨o, ho, r⟩ := R.ob
  exact ⟨⟨o, ha o ho, r⟩, R.rows, R.tab, R.nd, ht, R.plain, R.led, R.room⟩
theorem sg_new {h : Heap} {a : Addr} (ho : h.get? a = some { cls := .type "set", dict := none, data := .set #[] 0 (.fresh 0 0 (!w.params.followText "set-order")) }) : Sg P w h a [] #[] 0 (.fresh 0 0 (!w.params.followText "set-order")) where
  ob
      := ⟨_, ho, ⟨rfl, rfl, rfl⟩, rfl⟩
  rows := rfl
  tab := ⟨List.Pairwise.nil, rfl, rfl, .old (.inl rfl), fun x hx => (by cases hx), fun i h j hi => (by simp at hi)⟩
  nd := List.nodup_nil
  tup := fun p hp => by cases hp
  plain := rfl
  led := by
    show
        _ ∨ (!w.params.followText "set-order") = true
    cases w.params.followText "set-order" <;> simp
  room := by show 0 * 5 < 7 * 3; decide
/-- the loop that adds -/
theorem fill_loop {I : Addr} {fp wr : List Addr} {G : Array GenState → Array GenState → Prop} {n : Nat} {Pv : Nat → Value → Prop} {St : Nat → Shared → Prop} {R : Result → Shared → Prop}
    (W : WalksS P w A.in1 I fp wr G n Pv St) (S : Addr) (hSf : S ∉ fp) (ks : List (Addr × List Int)) (hn : n = ks.length) (hfew : ks.length < 307) (hval : ∀ i v, Pv i v → ∃ p, ks[i]? = some p ∧ v = .ref p.1)
    (h0 : Heap) (hk : ∀ p ∈ ks, IsT P w h0 p.2 p.1) (hS0 : h0.get? S = none) (hw0 : ∀ b ∈ wr, h0.get? b = none) (hu : A.in1.units < cLine) (s0 : Shared)
    (hR : ∀ s' L es ep t, Moved (S :: wr) G s0 s' → Sg P w s'.heap S L es ep t → Got ks n L → (∀ b o, h0.get? b = some o → s'.heap.get? b = some o) → R (.ok (.ret .none)) s') :
    ∀ (k i : Nat) (s : Shared), n - i = k → i ≤ n → St i s → (∀ b o, h0.get? b = some o → s.heap.get? b = some o) → Moved (S :: wr) G s0 s → (∃ L es ep t, Sg P w s.heap S L es ep t ∧ Got ks i L) →
      codeAny
          (model P w) A (.builtin "set.update.loop" ⟨[.ref S, .ref I], []⟩) R s := by
  have
      hSw : S ∉ wr := fun h => hSf (W.sub _ h)
  have wide : ∀ b ∈ wr, b ∈ S :: wr := fun b hb => List.mem_cons_of_mem _ hb
  intro k
  induction k with
  | zero =>
    intro i s hk' hi hst hkp mv ⟨L, es, ep, t, hS, g⟩
    obtain rfl : i = n := by omega
    refine
        codeAny_builtin F.entry_set_update_loop ?_
    rw
        [Around.under_plainId F.plain_set_update_loop _]
    show
        wpAny _ A.in1 (pyNext (.ref I) >>= _) _ _ s
    refine
        wpAny_bind (W.done s _ _ hst fun s' hm => ?_)
    have hkp' : ∀ b o, h0.get? b = some o → s'.heap.get? b = some o := fun b o e => hm.heap b o (fun hb => by rw [hw0 b hb] at e; cases e) (hkp b o e)
    exact wpAny_pure (hR s' L es ep t (Moved.trans W.gtrans mv (hm.mono wide)) (hS.keep (fun o e => hm.heap S o hSw e) fun p hp => isT_keep (hk p (List.mem_of_mem_take (g.sub p hp))) hkp') g hkp')
  | succ k ih =>
    intro i s hk' hi hst hkp mv ⟨L, es, ep, t, hS, g⟩
    have hlt : i < n := by omega
    refine
        codeAny_builtin F.entry_set_update_loop ?_
    rw
        [Around.under_plainId F.plain_set_update_loop _]
    show
        wpAny _ A.in1 (pyNext (.ref I) >>= _) _ _ s
    refine
        wpAny_bind (W.item i s _ _ hlt hst fun v s' hP hst' hm => ?_)
    obtain
        ⟨p, hp, rfl⟩ := hval i v hP
    have hkp' : ∀ b o, h0.get? b = some o → s'.heap.get? b = some o := fun b o e => hm.heap b o (fun hb => by rw [hw0 b hb] at e; cases e) (hkp b o e)
    have hS' : Sg P w s'.heap S L es ep t := hS.keep (fun o e => hm.heap S o hSw e) fun q hq => isT_keep (hk q (List.mem_of_mem_take (g.sub q hq))) hkp'
    have
        hx : IsT P w s'.heap p.2 p.1 := isT_keep (hk p (List.mem_of_getElem? hp)) hkp'
    show
        wpAny _ A.in1 (holding [Value.ref p.1] (setAdd S (.ref p.1)) >>= _) _ _ s'
    refine
        wpAny_bind (wpAny_holding ?_)
    unfold setAdd
    refine wpAny_holding (wpAny_bind (wpAny_pyHash_tuple hu hx ?_))
    refine add_in (s := { s' with toks := s'.toks + (p.2.length + 1) }) hS' hx hu (by have := g.len; omega) fun b h' L' es' ep' t' hsb hS2 c1 c2 => ?_
    have
        g' : Got ks (i + 1) L' := by
      by_cases c : p.2 ∈ L.map (·.2)
      · rw
            [c1 c]; exact g.same hp c
      · exact g.more hp (c2 c)
    refine wpAny_pure ⟨plainId_quiet F.plain_set_update_loop _, ih (i + 1) _ (by omega) hlt (W.frame _ s' _ _ hst' (Nat.le_add_right _ _) fun b hb o e => ?_) (fun b o e => ?_) (Moved.trans W.gtrans mv ((hm.mono wide).then_heap (Nat.le_add_right _ _) fun b o hb e => ?_)) ⟨L', es', ep', t', hS2, g'⟩⟩
    · rw [hsb.2 b fun h => hSf (h ▸ hb)]; exact e
    · exact (hsb.2 b fun z => by rw [z, hS0] at e; cases e).trans (hkp' b o e)
    · rw [hsb.2 b fun h => hb (h ▸ List.mem_cons_self)]; exact e
end

section
variable
    {P : Program} {w : World} {A : Around} {E : Value → Shared → Prop} {s : Shared}
/-- set(xs) -/
theorem call_setG {l : Addr} {items : Array Value} (ks : List (Addr × List Int)) {Q : Value → Shared → Prop} (hh : A.handled = none) (hl : s.heap.IsList l items) (hit : items.toList = ks.map fun p => Value.ref p.1)
    (hk : ∀ p ∈ ks, IsT P w s.heap p.2 p.1) (hfew : ks.length < 307) (hu : A.units + 3 < cLine)
    (h : ∀ (h' : Heap) (tk : Nat) L es ep t, Sg P w h' s.heap.objs.size L es ep t → Got ks ks.length L → (∀ b o, s.heap.get? b = some o → h'.get? b = some o) → Q (.ref s.heap.objs.size) { s with heap := h', toks := tk }) :
    wpAny
        (model P w) A (call (.type "set") [.ref l]) Q E s := by
  have hisz : items.size = ks.length := by simpa using congrArg List.length hit
  obtain
      ⟨c, tl, hmro⟩ := F.called_set.mro
  have
      hmade := F.called_set.made
  have hsub := F.called_set.sub
  refine
      wpAny_call (codeAny_of_tree ?_)
  show
      wpAny _ _ (callAny (.type "set") _) _ _ _
  refine
      wpAny_pure ⟨Code.quiet_builtin _ (by decide +kernel), codeAny_builtin F.entry_type_call ?_⟩
  rw
      [Around.under_plain (weight_type_call_type "set" [.ref l] []) rfl]
  have
      h1 := F.called_set.notType
  have
      h2 := F.called_set.canCreate
  have
      hct := F.typeCall_set_1 (.ref l)
  repeat
      (any_goals (first | assumption | wp_step))
  let new : Obj := { cls := .type "set", dict := none, data := .set #[] 0 (.fresh 0 0 (!w.params.followText "set-order")) }
  refine codeAny_mono (code_set_led1 (.ref l) (E := E) (Q₁ := fun obj s₁ => obj = .ref s.heap.objs.size ∧ s₁ = { s with heap := s.heap.push new }) ⟨rfl, rfl⟩) fun r s₁ hr => ?_
  cases r with
  | error e => exact hr
  | ok fl =>
    cases fl with
    | ret obj =>
      obtain ⟨rfl, rfl⟩ := hr
      have hS : (s.heap.push new).get? s.heap.objs.size = some new := Heap.get?_push_size _ rfl
      have hT : Shared.TypeIs { s with heap := s.heap.push new } (.ref s.heap.objs.size) "set" := ⟨_, hS, rfl⟩
      have
          hli := F.called_set.init.lookup
      have
          hbi := F.called_set.init.bind (.ref s.heap.objs.size)
      repeat
          (any_goals (first | assumption | wp_step))
      refine codeAny_mono (codeAny_call_builtin (R := wants (fun r s₂ => r = .none ∧ ∃ h' tk L es ep t, s₂ = { s with heap := h', toks := tk } ∧ Sg P w h' s.heap.objs.size L es ep t ∧ Got ks ks.length L ∧
          (∀
              b o, s.heap.get? b = some o → h'.get? b = some o)) E) F.called_set.init.plain F.entry_set_init (check_set_init_1 hT ?_)) fun r₂ s₂ hr₂ => ?_
      · obtain ⟨⟨ocls, odict, odata, oslots⟩, hol, hcl, nl, hdl⟩ := hl
        simp only at hcl hdl
        subst hcl hdl
        have hol' : (s.heap.push new).get? l = some { cls := .type "list", dict := odict, data := .seq items nl, slots := oslots } := Heap.get?_push_of_some _ hol
        have hsls := F.sub_list_set
        have
            hslf := F.sub_list_frozenset
        have
            hne : (Value.type "list" == Value.type "dict") = false := by decide
        have hl1 : (s.heap.push new).IsList l items := ⟨_, hol', rfl, nl, rfl⟩
        unfold
            Builtin.«set.__init__» noKeywords Builtin.Frozenset.updateFrom
        generalize hPI : pyIter = PI
        wp_walk
        subst hPI
        refine wpAny_pyIter_list hl1 (wpAny_bind (wpAny_runValue ?_))
        have
            hlS : l < s.heap.objs.size := Heap.lt_size hol
        have hsz : (s.heap.push new).objs.size = s.heap.objs.size + 1 := Heap.size_push ..
        have fresh : ∀ b, s.heap.objs.size ≤ b → s.heap.get? b = none := fun b hb => by
          cases q : s.heap.get? b with
          | none => rfl
          | some o =>
                exact absurd (Nat.lt_of_lt_of_le (Heap.lt_size q) hb) (Nat.lt_irrefl _)
        have hneI : l ≠ (s.heap.push new).objs.size := by rw [hsz]; exact Nat.ne_of_lt (Nat.lt_succ_of_lt hlS)
        have hneS : s.heap.objs.size ∉ [(s.heap.push new).objs.size, l] := by
          rw [hsz]
          simp only [List.mem_cons, List.not_mem_nil, or_false, not_or]
          exact
              ⟨Nat.ne_of_lt (Nat.lt_succ_self _), Nat.ne_of_gt hlS⟩
        refine fill_loop ((Walks.list (by simp [hh]) _ l hneI items).toS) s.heap.objs.size hneS ks hisz hfew (fun i v hv => ?_) s.heap hk (fresh _ (Nat.le_refl _)) (fun b hb => fresh b (by rw [List.mem_singleton.mp hb, hsz]; exact Nat.le_succ _)) hu _ ?hR items.size 0 _ (Nat.sub_zero _) (Nat.zero_le _)
          ⟨⟨_, Heap.get?_push_size _ rfl, rfl, rfl⟩, hl1.push _⟩ (fun b o e => Heap.get?_push_of_some _ (Heap.get?_push_of_some _ e)) ⟨fun _ _ _ e => e, rfl, rfl, rfl, Nat.le_refl _⟩ ⟨[], #[], 0, _, sg_new (Heap.get?_push_of_some _ hS), Got.zero ks⟩
        case hR =>
          intro
              s' L es ep t hm hS' g' hkp
          obtain
              ⟨h', g2, d', tk', os'⟩ := s'
          obtain rfl : g2 = s.gens := hm.gens
          obtain rfl : d' = s.drawn := hm.drawn
          obtain rfl : os' = s.os := hm.os
          show wpAny _ _ _ _ _ _
          refine wpAny_pure ?_
          show
              wpAny _ _ (ret Value.none) _ _ _
          rw [hisz] at g'
          exact
              wpAny_pure ⟨rfl, h', tk', L, es, ep, t, rfl, hS', g', hkp⟩
        · have q : items.toList[i]? = some v := by rw [Array.getElem?_toList]; exact hv
          rw
              [hit, List.getElem?_map] at q
          obtain ⟨p, hp, rfl⟩ := Option.map_eq_some_iff.mp q
          exact ⟨p, hp, rfl⟩
      · cases r₂ with
        | error e => exact hr₂
        | ok fl₂ =>
          cases fl₂ with
          | ret r =>
            obtain
                ⟨rfl, h', tk, L, es, ep, t, rfl, hS', g', hk'⟩ := hr₂
            repeat
                (any_goals (first | assumption | wp_step))
            exact
                h _ _ _ _ _ _ hS' g' hk'
          | _ => exact hr₂.elim
    | _ => exact hr.elim
end

/-!
    ### as rules of the layer -/
/-- the set at a, but for its tuples -/
def SgO (P : Program) (w : World) (a : Addr) (L : List (Addr × List Int)) : HO := .ext fun h => ∃ (es : Array (Int × Value)) (ep : Nat) (t : SetTable), (∃ o, h.get? a = some o ∧ o.ExactSet ∧ o.data = .set es ep t) ∧
  es.toList = rowsOf P w L ∧ Tb t (L.map fun p => thash P w p.2) ∧ (L.map (·.2)).Nodup ∧ t.plain = true ∧ (w.params.followText "set-order" = true ∨ t.led = true) ∧ L.length * 5 < t.mask * 3
section
variable {X : Cx}
theorem sgO_ok {P : Program} {w : World} {H : Hp} {h : Heap} {a : Addr} {L : List (Addr × List Int)} {es : Array (Int × Value)} {ep : Nat} {t : SetTable} (R : Sg P w h a L es ep t) : ObjOk P w H h a (SgO P w a L) := by
  obtain ⟨o, ho, r⟩ := R.ob
  refine ⟨⟨es, ep, t, ⟨o, ho, r⟩, R.rows, R.tab, R.nd, R.plain, R.led, R.room⟩, ⟨o, ho⟩, fun h1 h2 p k => ?_⟩
  obtain ⟨es', ep', t', ⟨o', ho', r'⟩, q'⟩ := p
  exact
      ⟨es', ep', t', ⟨o', k o' ho', r'⟩, q'⟩
theorem sgO_at {pins : List (Addr × Obj)} {σ : L2.St} {H : Hp} {s : Shared} {a : Addr} {L : List (Addr × List Int)} (I : Inv X pins σ H s) (ha : H a = some (SgO X.prog X.w a L)) (ht : ∀ p ∈ L, H p.1 = some (.tup (p.2.map V.int))) :
    ∃ es ep t, Sg X.prog X.w s.heap a L es ep t := by
  obtain ⟨es, ep, t, h1, h2, h3, h4, h5, h6, h7⟩ := (I.hok a _ ha).1
  exact ⟨es, ep, t, h1, h2, h3, h4, fun p hp => I.isT (SqT.of (ht p hp)), h5, h6, h7⟩
/-- set(xs), xs a list of up to 300 tuples of ints -/
def rSetG (K : PySem.W.Frag) (P : Program) (w : World) : List V → Hp → VK → Prop := fun xs H Q => ∃ (l : Addr) (ks : List (Addr × List Int)), xs = [V.ref l] ∧ SqL K H l (ks.map fun p => V.ref p.1) ∧ (∀ p ∈ ks, H p.1 = some (.tup (p.2.map V.int))) ∧ ks.length ≤ 300 ∧
  ∀ a L, H a = none → (∀ p ∈ L, p ∈ ks) → (∀ p ∈ ks, p.2 ∈ L.map (·.2)) → (L.map (·.2)).Nodup → Q (.ref a) (upd H a (SgO P w a L))
theorem cr_setG (hc : X.calm = true) (hu : X.A.units + 64 < cLine) : CallR X (.type "set") (rSetG X.K X.prog X.w) := by
  intro
      pins s σ H xs us Q I r h
  obtain
      ⟨l, ks, rfl, hl, hk, hf, q⟩ := h
  rw [Vals.ref1 r]
  obtain
      ⟨its, rv, pl, hz⟩ := I.list hl
  refine call_setG (P := X.prog) (w := X.w) ks (I.ok.hd hc) pl.isList (by simpa using refs_of_vals rv) (fun p hp => I.isT (SqT.of (hk p hp))) (by omega) (by omega) fun h' tk L es ep t R g k => ?_
  refine ⟨.ref s.heap.objs.size, upd H s.heap.objs.size (SgO X.prog X.w s.heap.objs.size L), I.laid (t' := tk) k (Nat.le_refl _) (sgO_ok R), rfl, q _ L (I.hok.fresh (Nat.le_refl _)) (fun p hp => List.mem_of_mem_take (g.sub p hp)) (fun p hp => g.all p (by rw [List.take_length]; exact hp)) R.nd⟩
/-- sorted(set) -/
def rSortG (P : Program) (w : World) (K : PySem.W.Frag) : List V → Hp → VK → Prop := fun vs H Q => ∃ (a : Addr) (L : List (Addr × List Int)), vs = [V.ref a] ∧ H a = some (SgO P w a L) ∧ (∀ p ∈ L, H p.1 = some (.tup (p.2.map V.int)) ∧ p.2 ≠ []) ∧
  ∀ (ys : List V) (p : Addr), TLs K H ys (srtT (L.map (·.2))) → H p = none → Q (.ref p) (upd H p (.lst ys))
theorem cr_sortG (hc : X.calm = true) : CallR X (.builtin "sorted") (rSortG X.prog X.w X.K) := by
  intro
      pins s σ H vs us Q I r h
  obtain ⟨a, L, rfl, ha, hL, q⟩ := h
  obtain ⟨es, ep, t, R⟩ := sgO_at I ha fun p hp => (hL p hp).1
  rw [Vals.ref1 r]
  have hlen := R.len
  have hes := rows_len R.rows
  obtain
      ⟨o, ho, hex, hd⟩ := R.ob
  refine
      Calls.call_function_entry kind_sorted plain_sorted entry_sorted (args_sorted1 _) ?_
  unfold Builtin.«sorted»
  refine wpAny_bind (m := checkCount "sorted" 1 1 _) (wpAny_pure (wpAny_bind (collect_set (A := X.A.in1) (I.ok.hd hc) ⟨o, ho, hex.1, hd⟩ R.fits (by unfold scanBound; omega) R.tab.asc R.led fun s1 vs k1 hz g1 o1 pm => ?_)))
  have hrows : es.toList.map (·.2) = L.map fun q => Value.ref q.1 := by rw [R.rows, rowsOf, List.map_map]; rfl
  rw [hrows] at pm
  have hvl : vs.length = L.length := by rw [pm.length_eq, List.length_map]
  have hline : vs.length ≤ sizeLine := by rw [hvl, sizeLine_eq]; omega
  refine wpAny_bind (wpAny_newList ?_ hline)
  have
      hoL : (s1.heap.push (seqObj "list" vs.toArray 0)).get? s1.heap.objs.size = some (seqObj "list" vs.toArray 0) := Heap.get?_push_size _ rfl
  let kf : Value → List Int := TS.intsOf s.heap
  have raw : ∀ v ∈ vs, ∃ p ∈ L, v = Value.ref p.1 ∧ TS.TupInts s.heap v p.2 := fun v hv => by
    obtain ⟨p, hp, rfl⟩ := List.mem_map.mp (pm.mem_iff.mp hv)
    exact ⟨p, hp, rfl, tupI_raw I (SqT.of (hL p hp).1)⟩
  have ok1 : TsOk (s1.heap.push (seqObj "list" vs.toArray 0)) kf vs := fun v hv => by
    obtain ⟨p, hp, _, ti⟩ := raw v hv
    have e : kf v = p.2 := ti.ints
    rw [e]
    exact ⟨ti.keeps fun b o e _ => Heap.get?_push_of_some _ (k1 b o e), (hL p hp).2⟩
  have eL : (vs.map kf).Perm (L.map (·.2)) := by
    have h1 := pm.map kf
    rw [List.map_map] at h1
    have h2 : L.map (kf ∘ fun q => Value.ref q.1) = L.map (·.2) := List.map_congr_left fun p hp => (tupI_raw I (SqT.of (hL p hp).1)).ints
    rw [h2] at h1
    exact h1
  refine wpAny_bind (wpAny_holding (wpAny_call_entry slot_list_sort ⟨_, hoL, rfl⟩ entry_list_sort (SrtO.list_sort_ord (s := { s1 with heap := s1.heap.push (seqObj "list" vs.toArray 0) }) (lx_swoV kf) hoL hline (fun h2 => ?_) fun out so st => ⟨_, rfl, ?_⟩) (args_list_sort _)))
  · refine ts_sortable (by omega) ok1 fun o e => ?_
    obtain rfl := Option.some.inj (e.symm.trans hoL)
    exact fun c => absurd (Value.type.inj c) (by decide)
  · obtain ⟨e', he'⟩ := sortedHeap_at (vs := vs) (out := out.toArray) hoL
    have h3 : ∀ u ∈ out, ∃ a, u = Value.ref a := fun u hu => by
      obtain ⟨p, _, e, _⟩ := raw u (st.perm.mem_iff.mp hu)
      exact ⟨p.1, e⟩
    have ho : out.map kf = srtT (L.map (·.2)) := srt_uniq (List.pairwise_map.mpr so) (srtT_srt _) (((st.perm.map kf).trans eL).trans (srtT_perm _).symm)
    have kept : ∀ b u, s.heap.get? b = some u → (sortedHeap (s1.heap.push (seqObj "list" vs.toArray 0)) s1.heap.objs.size vs out.toArray).get? b = some u := fun b u e => by
      have e1 := k1 b u e
      have lt := Heap.lt_size e1
      rw [sortedHeap_old (Nat.ne_of_lt lt) (by rw [PyProof.Rows.size_push']; exact Nat.lt_succ_of_lt lt)]
      exact Heap.get?_push_of_some _ e1
    have hn : H s1.heap.objs.size = none := I.hok.fresh hz
    have I2 : Inv X pins σ (upd H s1.heap.objs.size (.lst (out.map bkV))) { s with heap := sortedHeap (s1.heap.push (seqObj "list" vs.toArray 0)) s1.heap.objs.size vs out.toArray, gens := s1.gens, drawn := s1.drawn, toks := s1.toks } :=
      I.call (ch := []) (Un.laid kept hz hn) (I.hok.laid kept hz ⟨by rw [List.length_map, st.perm.length_eq]; exact hline, out, e', bkV_vals h3, he'⟩) (by rw [g1]; exact I.bare) (fun _ z => nomatch z)
    refine wpAny_pure ⟨_, rfl, .ref s1.heap.objs.size, upd H s1.heap.objs.size (.lst (out.map bkV)), ?_, rfl, q _ _ ?_ hn⟩
    · have e : s1.os = s.os := o1
      rw [← e] at I2
      exact I2
    · rw [← ho]
      have all : ∀ l : List Value, (∀ u ∈ l, u ∈ vs) → TLs X.K H (l.map bkV) (l.map kf) := fun l => by
        induction l with
        | nil => exact fun _ => .nil
        | cons u l ih =>
          intro h
          obtain ⟨p, hp, rfl, ti⟩ := raw u (h u List.mem_cons_self)
          have e : kf (.ref p.1) = p.2 := ti.ints
          refine .cons ?_ (ih fun y hy => h y (List.mem_cons_of_mem _ hy))
          rw [e]; exact ⟨p.1, rfl, (hL p hp).1⟩
      exact all out fun u hu => st.perm.mem_iff.mp hu
end
end Pur

/-! PurMul: t * 1 of a tuple is t. -/
namespace Pur
open
    PySem PySem.Spec PyProof.Rows L2
theorem mul_one (l : Addr) (items : Array Value) (n : Nat) (dd : Option Addr) (sl : Array (Option Value)) (u : Tok) :
    Meets (Builtin.«tuple.__mul__» ⟨[.ref l, .int 1 u], []⟩) (fun _ R s => s.heap.get? l = some { cls := .type "tuple", dict := dd, data := .seq items n, slots := sl } ∧ R (.ok (.ret (Value.ref l))) s) :=
  .of_wp
      fun prog w A R s h => by
    obtain
        ⟨hp, g, d, tk, os⟩ := s
    obtain ⟨hl, h⟩ := h
    have f1 := AutoSeq1.idx_int
    wp_walk
        using wpAny_loadPart' hl
    exact ⟨_, rfl, h⟩
def rRep1 (K : PySem.W.Frag) : R2 := fun x y H Q => ∃ l xs, x = .ref l ∧ y = .int 1 ∧ SqT K H l xs ∧ Q (.ref l) H
theorem op_rep1 {X : Cx} : OpR X (binaryOp .Mult) (rRep1 X.K) := by
  intro
      pins s σ H x y v u Q I rx ry h
  obtain ⟨l, xs, rfl, rfl, hT, q⟩ := h
  cases rx
  obtain ⟨t, rfl⟩ := ry
  obtain
      ⟨its, r, ⟨⟨cls, dd, data, sl⟩, ho, hc, n, hd⟩, hs⟩ := I.tuple hT
  simp only at hc hd
  subst hc hd
  exact wpAny_binaryOp_repeat_ref (T := "tuple") (U := "int") (by decide) ⟨_, ho, rfl⟩ (fun s' => typeIs_int s' 1 t) noFill_tuple_mul F.fills_int_mul F.slot_int_rmul repeat_tuple F.slot_int_index.lookup
    (call_meets F.slot_int_rmul (typeIs_int s 1 t) F.entry_int_rmul (F.args_int_rmul_2 _ _) (int_rmul_tuple 1 t l its.toArray n dd sl)
      ⟨ho, rfl, ⟨_, ho, rfl⟩, call_meets F.slot_tuple_mul ⟨_, ho, rfl⟩ F.entry_tuple_mul (F.args_tuple_mul_2 _ _) (mul_one l its.toArray n dd sl t) ⟨ho, .ref l, H, I, rfl, q⟩⟩)
end Pur

/-! Pur1: plain data D, how a value of the abstract heap stands for it, what a step may change. -/
namespace Pur
open
    PySem PySem.Spec PyProof.Rows L2

/-- plain data -/
inductive D where
  | non | bl (b : Bool) | int (i : Int) | str (s : Str)
  | tup (xs : List D) | lst (xs : List D)
  | ins (c : Str) (fs : List (Str × D))
  | fn (x : Str) | cls (x : Str) | ty (n : String) | pen
  /-- the error that is held: what it is an instance of, its fields; any value -/
  | exn (isx : List (Str × Bool)) (fv : List (Str × V)) | raw (v : V)
  /-- an empty dict -/
  | dic
instance : Inhabited D := ⟨.non⟩

/-- what is fixed through a law: the pen's list, its cells -/
structure En where
  a : Addr
  oe : Obj
  dx : Addr
  c : Str
  isx : List (Str × Bool)
  fv : List (Str × V)
  fr : List (Str × V)
structure G where
  pa : Addr
  ca : Addr
  T : List (Addr × Str)
  en : Option En := none
/-- the very object -/
def exF (a : Addr) (oe : Obj) : HO := .ext fun h => h.get? a = some oe
/-- the pen's state -/
structure Pn where
  at_ : Int
  rest : Int
  cells : List Int

/-- a tuple, frozen -/
def TupAt (K : PySem.W.Frag) (F : Hp) (a : Addr) (vs : List V) : Prop := F a = some (.tup vs)

mutual
def Rep (K : PySem.W.Frag) (g : G) (F : Hp) : D → V → Prop
  | .non, v => v = .non
  | .bl b, v => v = .bl b
  | .int i, v => v = .int i
  | .str s, v => v = .str s
  | .tup xs, v => ∃ a vs, v = .ref a ∧ TupAt K F a vs ∧ Reps K g F xs vs
  | .lst xs, v => ∃ a vs, v = .ref a ∧ F a = some (.lst vs) ∧ Reps K g F xs vs
  | .ins c fs, v => ∃ a dx fv, v = .ref a ∧ F a = some (.ins (He.ga K c) dx fv) ∧ RepF K g F fs fv
  | .fn x, v => v = .ref (He.ga K x)
  | .cls x, v => v = .ref (He.ga K x)
  | .ty n, v => v = .ty n
  | .pen, v => v = .ref g.pa
  | .exn isx fv, v => ∃ e, g.en = some e ∧ v = .ref e.a ∧ e.isx = isx ∧ e.fv = fv
  | .raw w, v => v = w
  | .dic, v => ∃ a, v = .ref a ∧ F a = some (.dT [])
def Reps (K : PySem.W.Frag) (g : G) (F : Hp) : List D → List V → Prop
  | [], vs => vs = []
  | d :: ds, vs => ∃ v r, vs = v :: r ∧ Rep K g F d v ∧ Reps K g F ds r
def RepF (K : PySem.W.Frag) (g : G) (F : Hp) : List (Str × D) → List (Str × V) → Prop
  | [], fv => fv = []
  | (x, d) :: fs, fv => ∃ v r, fv = (x, v) :: r ∧ Rep K g F d v ∧ RepF K g F fs r
end

theorem TupAt.mono {K : PySem.W.Frag} {F F' : Hp} (s : Same F F') {a : Addr} {vs : List V} (h : TupAt K F a vs) : TupAt K F' a vs := s _ _ h
theorem TupAt.sq {K : PySem.W.Frag} {F F' : Hp} (s : Same F F') {a : Addr} {vs : List V} (h : TupAt K F a vs) : SqT K F' a vs := SqT.of (s _ _ h)

mutual
theorem Rep.mono {K : PySem.W.Frag} {g : G} {F F' : Hp} (s : Same F F') : ∀ (d : D) (v : V), Rep K g F d v → Rep K g F' d v
  | .non, v, h | .bl b, v, h | .int i, v, h | .str x, v, h | .fn x, v, h | .cls x, v, h | .ty n, v, h | .pen, v, h | .exn _ _, v, h | .raw _, v, h => by
    simp only [Rep] at h ⊢; exact h
  | .tup xs, v, h => by
    simp only [Rep] at h ⊢
    obtain ⟨a, vs, e, q, r⟩ := h
    exact ⟨a, vs, e, TupAt.mono s q, Reps.mono s xs vs r⟩
  | .lst xs, v, h => by
    simp only [Rep] at h ⊢
    obtain ⟨a, vs, e, q, r⟩ := h
    exact ⟨a, vs, e, s _ _ q, Reps.mono s xs vs r⟩
  | .ins c fs, v, h => by
    simp only [Rep] at h ⊢
    obtain ⟨a, dx, fv, e, q, r⟩ := h
    exact ⟨a, dx, fv, e, s _ _ q, RepF.mono s fs fv r⟩
  | .dic, v, h => by
    simp only [Rep] at h ⊢
    obtain ⟨a, e, q⟩ := h
    exact ⟨a, e, s _ _ q⟩
theorem Reps.mono {K : PySem.W.Frag} {g : G} {F F' : Hp} (s : Same F F') : ∀ (ds : List D) (vs : List V), Reps K g F ds vs → Reps K g F' ds vs
  | [], vs, h => by simp only [Reps] at h ⊢; exact h
  | d :: ds, vs, h => by
    simp only [Reps] at h ⊢
    obtain ⟨v, r, e, q, t⟩ := h
    exact ⟨v, r, e, Rep.mono s d v q, Reps.mono s ds r t⟩
theorem RepF.mono {K : PySem.W.Frag} {g : G} {F F' : Hp} (s : Same F F') : ∀ (ds : List (Str × D)) (vs : List (Str × V)), RepF K g F ds vs → RepF K g F' ds vs
  | [], vs, h => by simp only [RepF] at h ⊢; exact h
  | (x, d) :: ds, vs, h => by
    simp only [RepF] at h ⊢
    obtain ⟨v, r, e, q, t⟩ := h
    exact ⟨v, r, e, Rep.mono s d v q, RepF.mono s ds r t⟩
end

theorem Reps.len {K : PySem.W.Frag} {g : G} {F : Hp} : ∀ {ds : List D} {vs : List V}, Reps K g F ds vs → vs.length = ds.length
  | [], vs, h => by simp only [Reps] at h; rw [h]; rfl
  | d :: ds, vs, h => by
    simp only [Reps] at h
    obtain ⟨v, r, e, q, t⟩ := h
    rw [e, List.length_cons, List.length_cons, Reps.len t]
theorem Reps.get {K : PySem.W.Frag} {g : G} {F : Hp} : ∀ {ds : List D} {vs : List V} {i : Nat} {d : D}, Reps K g F ds vs → ds[i]? = some d → ∃ v, vs[i]? = some v ∧ Rep K g F d v
  | [], vs, i, d, h, e => by simp at e
  | d :: ds, vs, 0, d', h, e => by
    simp only [Reps] at h
    obtain ⟨v, r, e', q, t⟩ := h
    simp at e; subst e
    exact ⟨v, by rw [e']; rfl, q⟩
  | d :: ds, vs, i + 1, d', h, e => by
    simp only [Reps] at h
    obtain ⟨v, r, e', q, t⟩ := h
    obtain ⟨w, hw, hr⟩ := Reps.get (i := i) t (by simpa using e)
    exact ⟨w, by rw [e']; simpa using hw, hr⟩
theorem Reps.getV {K : PySem.W.Frag} {g : G} {F : Hp} {ds : List D} {vs : List V} {i : Nat} {v : V} (h : Reps K g F ds vs) (e : vs[i]? = some v) : ∃ d, ds[i]? = some d ∧ Rep K g F d v := by
  have hl := h.len
  have hi : i < vs.length := (List.getElem?_eq_some_iff.mp e).1
  have hi' : i < ds.length := by omega
  obtain ⟨w, hw, hr⟩ := h.get (List.getElem?_eq_getElem hi')
  rw [e] at hw; cases hw
  exact ⟨_, List.getElem?_eq_getElem hi', hr⟩
theorem Reps.app {K : PySem.W.Frag} {g : G} {F : Hp} : ∀ {ds es : List D} {vs ws : List V}, Reps K g F ds vs → Reps K g F es ws → Reps K g F (ds ++ es) (vs ++ ws)
  | [], es, vs, ws, h, k => by simp only [Reps] at h; rw [h]; exact k
  | d :: ds, es, vs, ws, h, k => by
    simp only [Reps] at h
    obtain ⟨v, r, e, q, t⟩ := h
    rw [e]
    show Reps K g F (d :: (ds ++ es)) (v :: (r ++ ws))
    simp only [Reps]
    exact ⟨v, r ++ ws, rfl, q, Reps.app t k⟩
theorem Reps.one {K : PySem.W.Frag} {g : G} {F : Hp} {d : D} {v : V} (h : Rep K g F d v) : Reps K g F [d] [v] := by
  simp only [Reps]; exact ⟨v, [], rfl, h, rfl⟩
theorem Reps.nil {K : PySem.W.Frag} {g : G} {F : Hp} : Reps K g F [] [] := by simp only [Reps]
theorem Reps.cons {K : PySem.W.Frag} {g : G} {F : Hp} {d : D} {v : V} {ds : List D} {vs : List V} (h : Rep K g F d v) (t : Reps K g F ds vs) : Reps K g F (d :: ds) (v :: vs) := by
  simp only [Reps]; exact ⟨v, vs, rfl, h, t⟩
theorem Reps.inv {K : PySem.W.Frag} {g : G} {F : Hp} {d : D} {v : V} {ds : List D} {vs : List V} (h : Reps K g F (d :: ds) (v :: vs)) : Rep K g F d v ∧ Reps K g F ds vs := by
  simp only [Reps] at h
  obtain ⟨v', r, e, q, t⟩ := h
  cases e
  exact ⟨q, t⟩
theorem Reps.take {K : PySem.W.Frag} {g : G} {F : Hp} : ∀ {ds : List D} {vs : List V} (n : Nat), Reps K g F ds vs → Reps K g F (ds.take n) (vs.take n)
  | [], vs, n, h => by simp only [Reps] at h; rw [h]; simp; exact Reps.nil
  | d :: ds, vs, 0, h => by simp; exact Reps.nil
  | d :: ds, vs, n + 1, h => by
    simp only [Reps] at h
    obtain ⟨v, r, e, q, t⟩ := h
    rw [e]; simp only [List.take_succ_cons]
    exact Reps.cons q (Reps.take n t)
theorem Reps.drop {K : PySem.W.Frag} {g : G} {F : Hp} : ∀ {ds : List D} {vs : List V} (n : Nat), Reps K g F ds vs → Reps K g F (ds.drop n) (vs.drop n)
  | [], vs, n, h => by simp only [Reps] at h; rw [h]; simp; exact Reps.nil
  | d :: ds, vs, 0, h => by simpa using h
  | d :: ds, vs, n + 1, h => by
    simp only [Reps] at h
    obtain ⟨v, r, e, q, t⟩ := h
    rw [e]; simp only [List.drop_succ_cons]
    exact Reps.drop n t

/-- the pen, as it stands -/
structure PenOk (g : G) (F H : Hp) (S : Pn) : Prop where
  fr : F g.pa = none
  at_ : H g.pa = some (.lst [.ref g.ca, .int S.at_, .int S.rest])
  cs : F g.ca = some (.lst (S.cells.map V.int))
  tb : LamX.Tabs g.T H
  nt : ∀ a ps, F a ≠ some (.tbl ps)
  xn : ∀ e, g.en = some e → F e.a = some (exF e.a e.oe) ∧ F e.dx = some (.xd e.fr)
/-- no object but a table -/
def NT (H : Hp) (a : Addr) : Prop := ∀ o, H a = some o → ∃ ps, o = .tbl ps
/-- neither a table nor a code object of one -/
def NoTab (x : Option HO) : Prop := (∀ ps, x ≠ some (.tbl ps)) ∧ ∀ c q, x ≠ some (LamX.CodeO c q)
theorem noTab_none : NoTab none := ⟨fun _ z => (nomatch z), fun _ _ z => (nomatch z)⟩
theorem noTab_lst {vs : List V} : NoTab (some (.lst vs)) := ⟨fun _ z => (nomatch z), fun c q z => by unfold LamX.CodeO at z; cases z⟩
theorem noTab_dT {r : List (List L2.Key × V)} : NoTab (some (.dT r)) := ⟨fun _ z => (nomatch z), fun c q z => by unfold LamX.CodeO at z; cases z⟩
theorem NT.of {H : Hp} {a : Addr} (h : H a = none) : NT H a := fun o e => by rw [h] at e; cases e
theorem NT.ne {H : Hp} {a p : Addr} {o : HO} (n : NT H p) (h : H a = some o) (ho : ∀ ps, o ≠ .tbl ps) : a ≠ p := fun e => by
  subst e
  obtain ⟨ps, z⟩ := n o h
  exact ho ps z
theorem tabs_new {T : List (Addr × Str)} {H : Hp} {p : Addr} {o : HO} (t : LamX.Tabs T H) (h : H p = none) : LamX.Tabs T (upd H p o) := t.ext fun b u e => by rw [upd_ne (ne_of_none e h)]; exact e
theorem tabs_upd {T : List (Addr × Str)} {H : Hp} {p : Addr} {o : HO} (t : LamX.Tabs T H) (h : NoTab (H p)) : LamX.Tabs T (upd H p o) := fun x hx => by
  obtain ⟨ps, hP, tr, all⟩ := t x hx
  have n1 : x.1 ≠ p := fun e => h.1 ps (e ▸ hP)
  refine ⟨ps, by rw [upd_ne n1]; exact hP, tr, fun pos cv hc => ?_⟩
  obtain ⟨c, e, hco⟩ := all pos cv hc
  have n2 : c ≠ p := fun e => h.2 c x.2 (e ▸ hco)
  exact ⟨c, e, by rw [upd_ne n2]; exact hco⟩
/-- what a step may change: the frozen part grows, what stood stands, but the pen -/
structure Fwd (g : G) (F H F' H' : Hp) (S' : Pn) : Prop where
  ff : Same F F'
  fh : Same F' H'
  hh : ∀ a o, H a = some o → a ≠ g.pa → (∀ ps, o ≠ .tbl ps) → H' a = some o
  hf : ∀ a o, H a = some o → (∀ vs, o ≠ .tup vs) → (∀ ps, o ≠ .tbl ps) → F a = none → F' a = none
  pn : PenOk g F' H' S'
/-- the state of a step: the frozen part, the slots -/
structure Stt (K : PySem.W.Frag) (g : G) (F H : Hp) (σ : L2.St) (ρ : List (Option D)) (S : Pn) : Prop where
  fh : Same F H
  pn : PenOk g F H S
  len : ρ.length = σ.length
  env : ∀ (i : Nat) (d : D), ρ[i]? = some (some d) → ∃ v, σ[i]? = some (some v) ∧ Rep K g F d v

theorem Fwd.refl {g : G} {F H : Hp} {S : Pn} (fh : Same F H) (pn : PenOk g F H S) : Fwd g F H F H S :=
  ⟨Same.refl F, fh, fun _ _ h _ _ => h, fun _ _ _ _ _ h => h, pn⟩
theorem Fwd.trans {g : G} {F H F1 H1 F2 H2 : Hp} {S1 S2 : Pn} (a : Fwd g F H F1 H1 S1) (b : Fwd g F1 H1 F2 H2 S2) : Fwd g F H F2 H2 S2 where
  ff := a.ff.trans b.ff
  fh := b.fh
  hh := fun x o h n t => b.hh x o (a.hh x o h n t) n t
  hf := fun x o h n t f => by
    by_cases e : x = g.pa
    · rw [e]; exact b.pn.fr
    · exact b.hf x o (a.hh x _ h e t) n t (a.hf x o h n t f)
  pn := b.pn
theorem NT.back {g : G} {F H F1 H1 : Hp} {S1 : Pn} {p : Addr} (f : Fwd g F H F1 H1 S1) (n : NT H1 p) : NT H p := fun o e => by
  by_cases c : ∃ ps, o = .tbl ps
  · exact c
  · by_cases hp : p = g.pa
    · subst hp
      obtain ⟨ps, z⟩ := n _ f.pn.at_
      cases z
    · exact n o (f.hh p o e hp fun ps z => c ⟨ps, z⟩)
theorem Stt.fwd {K : PySem.W.Frag} {g : G} {F H F' H' : Hp} {σ : L2.St} {ρ : List (Option D)} {S S' : Pn} (s : Stt K g F H σ ρ S) (f : Fwd g F H F' H' S') : Stt K g F' H' σ ρ S' :=
  ⟨f.fh, f.pn, s.len, fun i d e => by
    obtain ⟨v, h, r⟩ := s.env i d e
    exact ⟨v, h, Rep.mono f.ff d v r⟩⟩
theorem Stt.refl {K : PySem.W.Frag} {g : G} {F H : Hp} {σ : L2.St} {ρ : List (Option D)} {S : Pn} (s : Stt K g F H σ ρ S) : Fwd g F H F H S := Fwd.refl s.fh s.pn
/-- a new object, frozen at once -/
theorem Fwd.new {g : G} {F H : Hp} {S : Pn} {p : Addr} {o : HO} (fh : Same F H) (pn : PenOk g F H S) (hp : H p = none) (ho : ∀ ps, o ≠ .tbl ps) : Fwd g F H (upd F p o) (upd H p o) S where
  ff := fun a u h => by
    have : a ≠ p := ne_of_none (fh a u h) hp
    rw [upd_ne this]; exact h
  fh := fun a u h => by
    by_cases e : a = p
    · subst e; rw [upd_same] at h ⊢; exact h
    · rw [upd_ne e] at h ⊢; exact fh a u h
  hh := fun a u h _ _ => by rw [upd_ne (ne_of_none h hp)]; exact h
  hf := fun a o h n _ f => by
    rw [upd_ne (ne_of_none h hp)]; exact f
  pn := by
    have n1 : g.pa ≠ p := ne_of_none pn.at_ hp
    have n2 : g.ca ≠ p := ne_of_none (fh _ _ pn.cs) hp
    refine ⟨by rw [upd_ne n1]; exact pn.fr, by rw [upd_ne n1]; exact pn.at_, by rw [upd_ne n2]; exact pn.cs, tabs_new pn.tb hp, fun a ps e => ?_, fun e he => ?_⟩
    · by_cases c : a = p
      · subst c; rw [upd_same] at e; cases e; exact ho ps rfl
      · rw [upd_ne c] at e; exact pn.nt a ps e
    · obtain ⟨h1, h2⟩ := pn.xn e he
      exact ⟨by rw [upd_ne (ne_of_none (fh _ _ h1) hp)]; exact h1, by rw [upd_ne (ne_of_none (fh _ _ h2) hp)]; exact h2⟩
/-- a new object, left open -/
theorem Fwd.newO {g : G} {F H : Hp} {S : Pn} {p : Addr} {o : HO} (fh : Same F H) (pn : PenOk g F H S) (hp : H p = none) : Fwd g F H F (upd H p o) S where
  ff := Same.refl F
  fh := fun a u h => by
    rw [upd_ne (ne_of_none (fh a u h) hp)]; exact fh a u h
  hh := fun a u h _ _ => by rw [upd_ne (ne_of_none h hp)]; exact h
  hf := fun a o h n _ f => f
  pn := by
    have n1 : g.pa ≠ p := ne_of_none pn.at_ hp
    exact ⟨pn.fr, by rw [upd_ne n1]; exact pn.at_, pn.cs, tabs_new pn.tb hp, pn.nt, pn.xn⟩
theorem Fwd.to {K : PySem.W.Frag} {g : G} {F H F' H' : Hp} {S' : Pn} (f : Fwd g F H F' H' S') {d : D} {v : V} (r : Rep K g F d v) : Rep K g F' d v := Rep.mono f.ff d v r
theorem Fwd.tos {K : PySem.W.Frag} {g : G} {F H F' H' : Hp} {S' : Pn} (f : Fwd g F H F' H' S') {d : List D} {v : List V} (r : Reps K g F d v) : Reps K g F' d v := Reps.mono f.ff d v r

/-- an open object is written -/
theorem Fwd.upd' {g : G} {F H F' H' : Hp} {S : Pn} {p : Addr} {o : HO} (f : Fwd g F H F' H' S) (hp : NT H p) (hf : F' p = none) (hH : g.pa ≠ p) (hl : NoTab (H' p)) : Fwd g F H F' (upd H' p o) S where
  ff := f.ff
  fh := fun a u h => by
    have : a ≠ p := ne_of_none h hf
    rw [upd_ne this]; exact f.fh a u h
  hh := fun a u h n t => by rw [upd_ne (hp.ne h t)]; exact f.hh a u h n t
  hf := f.hf
  pn := ⟨f.pn.fr, by rw [upd_ne hH]; exact f.pn.at_, f.pn.cs, tabs_upd f.pn.tb hl, f.pn.nt, f.pn.xn⟩
/-- an open object is frozen -/
theorem Fwd.freeze {g : G} {F H F' H' : Hp} {S : Pn} {p : Addr} {o : HO} (f : Fwd g F H F' H' S) (hp : NT H p) (hf : F' p = none) (hH : H' p = some o) (hn : g.pa ≠ p) (ho : ∀ ps, o ≠ .tbl ps) : Fwd g F H (upd F' p o) H' S where
  ff := fun a u h => by
    have h' := f.ff a u h
    rw [upd_ne (ne_of_none h' hf)]; exact h'
  fh := fun a u h => by
    by_cases e : a = p
    · subst e; rw [upd_same] at h; rw [← h]; exact hH
    · rw [upd_ne e] at h; exact f.fh a u h
  hh := f.hh
  hf := fun a o h n t k => by
    rw [upd_ne (hp.ne h t)]; exact f.hf a o h n t k
  pn := by
    refine ⟨by rw [upd_ne hn]; exact f.pn.fr, f.pn.at_, ?_, f.pn.tb, fun a ps e => ?_, fun e he => ?_⟩
    · rw [upd_ne (ne_of_none f.pn.cs hf)]; exact f.pn.cs
    · by_cases c : a = p
      · subst c; rw [upd_same] at e; cases e; exact ho ps rfl
      · rw [upd_ne c] at e; exact f.pn.nt a ps e
    · obtain ⟨h1, h2⟩ := f.pn.xn e he
      exact ⟨by rw [upd_ne (ne_of_none h1 hf)]; exact h1, by rw [upd_ne (ne_of_none h2 hf)]; exact h2⟩

/-- only tables changed -/
theorem Fwd.tabs {g : G} {F H H' : Hp} {S : Pn} (fh : Same F H) (pn : PenOk g F H S) (e : LamX.ExtN H H') (t : LamX.Tabs g.T H') : Fwd g F H F H' S where
  ff := Same.refl F
  fh := fun a u h => e a u (fh a u h) fun ps z => pn.nt a ps (z ▸ h)
  hh := fun a o h _ t => e a o h t
  hf := fun _ _ _ _ _ h => h
  pn := ⟨pn.fr, e _ _ pn.at_ fun _ z => (nomatch z), pn.cs, t, pn.nt, pn.xn⟩
/-- the pen is written -/
theorem Fwd.pen {g : G} {F H F' H' : Hp} {S S' : Pn} (f : Fwd g F H F' H' S) (hc : S'.cells = S.cells) : Fwd g F H F' (upd H' g.pa (.lst [.ref g.ca, .int S'.at_, .int S'.rest])) S' where
  ff := f.ff
  fh := fun a u h => by
    rw [upd_ne (ne_of_none h f.pn.fr)]; exact f.fh a u h
  hh := fun a u h n t => by rw [upd_ne n]; exact f.hh a u h n t
  hf := f.hf
  pn := ⟨f.pn.fr, upd_same, by rw [hc]; exact f.pn.cs, tabs_upd f.pn.tb (by rw [f.pn.at_]; exact noTab_lst), f.pn.nt, f.pn.xn⟩

/-- all tuples count as frozen -/
def tupsF (F H : Hp) : Hp := fun a => match F a with
  | some o => some o
  | none => match H a with
    | some (.tup vs) => some (.tup vs)
    | _ => none
theorem Fwd.tups {g : G} {F H : Hp} {S : Pn} (fh : Same F H) (pn : PenOk g F H S) : Fwd g F H (tupsF F H) H S where
  ff := fun a u h => by unfold tupsF; rw [h]
  fh := fun a u h => by
    unfold tupsF at h
    cases e : F a with
    | some o => rw [e] at h; cases h; exact fh a _ e
    | none =>
      rw [e] at h
      simp only at h
      split at h
      · rename_i e2; cases h; exact e2
      · cases h
  hh := fun a o h _ _ => h
  hf := fun a o h n _ f => by
    unfold tupsF
    rw [f, h]
    simp only
    split
    · rename_i vs e; cases e; exact absurd rfl (n vs)
    · rfl
  pn := by
    refine ⟨?_, pn.at_, ?_, pn.tb, fun a ps e => ?_, fun e he => ?_⟩
    rotate_left 3
    · obtain ⟨h1, h2⟩ := pn.xn e he
      exact ⟨by unfold tupsF; rw [h1], by unfold tupsF; rw [h2]⟩
    · unfold tupsF; rw [pn.fr, pn.at_]
    · unfold tupsF; rw [pn.cs]
    · unfold tupsF at e
      cases z : F a with
      | some o => rw [z] at e; cases e; exact pn.nt a ps z
      | none =>
        rw [z] at e
        simp only at e
        split at e <;> cases e
theorem tupsF_at {F H : Hp} (fh : Same F H) {a : Addr} {vs : List V} (h : H a = some (.tup vs)) : tupsF F H a = some (.tup vs) := by
  unfold tupsF
  cases e : F a with
  | some o =>
    have := fh a o e
    rw [h] at this; cases this; rfl
  | none => simp only [h]

/-! ### results -/
inductive Rs (α : Type) where
  | ok (a : α) (s : Pn)
  | exc (c : Str) (fs : List (Str × D)) (s : Pn)
  | stuck
abbrev M (α : Type) := Pn → Rs α
def ret {α : Type} (a : α) : M α := fun s => .ok a s
def stuck {α : Type} : M α := fun _ => .stuck
def bnd {α β : Type} (m : M α) (f : α → M β) : M β := fun s => match m s with
  | .ok a s' => f a s'
  | .exc c fs s' => .exc c fs s'
  | .stuck => .stuck
instance : Monad M where
  pure := ret
  bind := bnd
def ofO {α : Type} : Option α → M α
  | some a => ret a
  | none => stuck
/-- an exception within is not let out (a comprehension) -/
def noX {α : Type} (m : M α) : M α := fun s => match m s with
  | .ok a s' => .ok a s'
  | _ => .stuck
end Pur

/-! Pur2: what an expression is worth, over plain data. -/
namespace Pur
open
    PySem PySem.Spec PyProof.Rows L2

/-- one def of the text -/
structure Fn where
  name : Str
  ps : List Str
  N : List Str
  body : List Stmt
  scope : Scope
/-- the text: its defs, classes, constants, the built-ins that it leaves as they are -/
structure Tx where
  fns : List Fn
  clss : List Str
  cInt : List (Str × Int)
  cStr : List (Str × Str)
  free : List Str
  lam : Bool := false
  hk : List (Str × Str × List Str) := []
  errs : List Str := []
  /-- calls by keywords: the def, the keywords from the left, where each parameter's value stands -/
  kws : List (Str × List Str × List Nat) := []
def Tx.fn (T : Tx) (x : Str) : Option Fn := T.fns.find? fun f => f.name == x
/-- what a call of the text's own is worth -/
abbrev CS := Str → List D → M D

/-! ### the compiled text -/
/-- a built-in that is served -/
inductive Bi where
  | len | isi | all | any | tuple | list | abs | int | bool | sum | min | max | sorted
/-- a target: a slot, or a row of targets -/
inductive CT where
  | v (i : Nat)
  | t (l : List CT)
/-- a compiled expression; iRng1 .. iEnum stand where something is walked -/
inductive CE where
  | const (d : D)
  | var (i : Nat)
  | bin (op : Operator) (a b : CE)
  | not (a : CE)
  | neg (a : CE)
  | and (a b : CE)
  | or (a b : CE)
  | isN (a : CE)
  | notN (a : CE)
  | cmp (op : CmpOp) (a b : CE)
  | chain (op op' : CmpOp) (a b c : CE)
  | ite (t a b : CE)
  | call (f : Str) (args : List CE)
  | callK (f : Str) (ix : List Nat) (args : List CE)
  /-- a slot that holds one of some defs, called -/
  | callV (i : Nat) (ok : List Str) (args : List CE)
  | bi (b : Bi) (args : List CE)
  | tup (es : List CE)
  | lst (es : List CE)
  | ix (a i : CE)
  | sl (a : CE) (lo hi : Option CE)
  | lc (own : List Nat) (tg : CT) (it : CE) (ifs : List CE) (elt : CE)
  | lc2 (own own1 : List Nat) (tg : CT) (it : CE) (ifs : List CE) (tg1 : CT) (it1 : CE) (ifs1 : List CE) (elt : CE)
  | rev (a : CE)
  | tupS (es : List (Bool × CE))
  | srtDc (own : List Nat) (t : Nat) (it : CE)
  | srtSet (a : CE)
  | dict0
  | heard (hk : List (Str × Str × List Str)) (e : CE)
  | att (e : CE) (f : Str)
  | iRng1 (a : CE)
  | iRng2 (a b : CE)
  | iZip (a b : CE)
  | iEnum (a : CE)
  | iVal (a : CE)

/-! ### values -/
def constD : Const → Option D
  | .none => some .non
  | .bool b => some (.bl b)
  | .int i => some (.int i)
  | .str s => some (.str s)
  | _ => none
def tyNames : List (Str × String) := [("int", "int"), ("bool", "bool"), ("str", "str"), ("list", "list"), ("tuple", "tuple"), ("dict", "dict")]
def globD (T : Tx) (x : Str) : Option D :=
  match T.fn x with
  | some _ => some (.fn x)
  | none => match T.cInt.lookup x with
    | some i => some (.int i)
    | none => match T.cStr.lookup x with
      | some s => some (.str s)
      | none => if T.clss.contains x then some (.cls x) else if T.free.contains x then (tyNames.lookup x).map .ty else none
def slotN : List Str → Str → Option Nat
  | [], _ => none
  | y :: r, x => if y = x then some 0 else (slotN r x).map (· + 1)
mutual
def D.py : D → Option PyData
  | .non => some .none
  | .bl b => some (.bool b)
  | .int i => some (.int i)
  | .str s => some (.str s)
  | .tup xs => (pys xs).map .tuple
  | .lst xs => (pys xs).map .list
  | _ => none
def pys : List D → Option (List PyData)
  | [] => some []
  | x :: xs => (D.py x).bind fun y => (pys xs).map fun ys => y :: ys
end
/-- == of data -/
def eqD (a b : D) : Option Bool := match D.py a, D.py b with
  | some x, some y => if SeqAt.shaped x = true ∧ SeqAt.shaped y = true then some (PyData.eqv x y) else none
  | _, _ => none
/-- by truth -/
def truD : D → Option Bool
  | .non => some false
  | .bl b => some b
  | .int i => some (i != 0)
  | .tup xs => some (!xs.isEmpty)
  | .lst xs => some (!xs.isEmpty)
  | _ => none
def D.flat : D → Bool
  | .non | .bl _ | .int _ | .str _ | .fn _ | .cls _ | .ty _ | .exn _ _ | .raw _ => true
  | _ => false
def intsOf : List D → Option (List Int)
  | [] => some []
  | .int i :: r => (intsOf r).map fun l => i :: l
  | _ => none
def blsOf : List D → Option (List Bool)
  | [] => some []
  | .bl b :: r => (blsOf r).map fun l => b :: l
  | _ => none
/-- < of tuples of ints -/
def ltT : D → D → Option Bool
  | .tup a, .tup b => match intsOf a, intsOf b with
    | some x, some y => some (HT.lexLt x y)
    | _, _ => none
  | _, _ => none
def small (i : Int) : Bool := decide (-(2 ^ 64) < i) && decide (i < 2 ^ 64)
def binD : Operator → D → D → Option D
  | .Add, .int i, .int j => some (.int (i + j))
  | .Sub, .int i, .int j => some (.int (i - j))
  | .Mult, .int i, .int j => if small i || small j then some (.int (i * j)) else none
  | .FloorDiv, .int i, .int j => if 0 < j ∧ j < 1073741824 then some (.int (i / j)) else none
  | .Mod, .int i, .int j => if 0 < j then some (.int (i % j)) else none
  | .Pow, .int i, .int j => if 0 ≤ j ∧ j ≤ 1000000 ∧ i.natAbs < 2 ^ 64 then some (.int (i ^ j.toNat)) else none
  | .Add, .tup a, .tup b => if a.length + b.length ≤ sizeLine then some (.tup (a ++ b)) else none
  | .Add, .lst a, .lst b => if a.length + b.length ≤ sizeLine then some (.lst (a ++ b)) else none
  | .Mult, .tup a, .int k => if k = 1 then some (.tup a) else if a ≠ [] ∧ 2 ≤ k ∧ k ≤ 1000 ∧ a.length ≤ 1000 then some (.tup (List.replicate k.toNat a).flatten) else none
  | .Mult, .lst a, .int k => if 0 ≤ k ∧ k < 2 ^ 62 ∧ a.length * k.toNat ≤ sizeLine then some (.lst (List.replicate k.toNat a).flatten) else none
  | _, _, _ => none
def cmpD : CmpOp → D → D → Option Bool
  | .Eq, a, b => eqD a b
  | .NotEq, a, b => (eqD a b).map (!·)
  | .Lt, .int i, .int j => some (decide (i < j))
  | .LtE, .int i, .int j => some (decide (i ≤ j))
  | .Gt, .int i, .int j => some (decide (j < i))
  | .GtE, .int i, .int j => some (decide (j ≤ i))
  | .Is, .bl a, .bl b => some (decide (a = b))
  | .IsNot, .bl a, .bl b => some (!decide (a = b))
  | _, _, _ => none
/-- is None -/
def isNon : D → Bool
  | .non => true
  | .raw w => decide (w = V.non)
  | _ => false
def tyName : D → Option String
  | .non => some "NoneType"
  | .bl _ => some "bool"
  | .int _ => some "int"
  | .str _ => some "str"
  | .tup _ => some "tuple"
  | .lst _ => some "list"
  | .dic => some "dict"
  | _ => none
def isTy (x : D) (n : String) : Option Bool := (tyName x).bind fun t => if tyNames.any (fun p => p.2 == n) then some (t == n || (t == "bool" && n == "int")) else none
def isTys (x : D) : List D → Option Bool
  | [] => some false
  | .ty n :: r => (isTy x n).bind fun b => (isTys x r).map fun c => b || c
  | _ => none
def getD' : D → D → Option D
  | .tup xs, .int i => L2.atI xs i
  | .lst xs, .int i => L2.atI xs i
  | _, _ => none

/-- x[i], the pen too -/
def ixM (x y : D) : M D := fun s => match x, y with
  | .pen, .int i => if i = 0 then .ok (.lst (s.cells.map D.int)) s else if i = 1 then .ok (.int s.at_) s else if i = 2 then .ok (.int s.rest) s else .stuck
  | x, y => ofO (getD' x y) s
def arg1 (f : D → Option D) : List D → Option D
  | [x] => f x
  | _ => none
def biLen : D → Option D
  | .tup xs => some (.int xs.length)
  | .lst xs => some (.int xs.length)
  | .str s => if s.length ≤ sizeLine then some (.int s.length) else none
  | _ => none
def biIsi : List D → Option D
  | [x, c] => (match c with
    | .ty n => (isTy x n).map .bl
    | .tup cs => (tyName x).bind fun _ => (isTys x cs).map .bl
    | .cls C => (match x with
      | .exn isx _ => (isx.lookup C).map .bl
      | _ => none)
    | _ => none)
  | _ => none
def onBls (f : List Bool → Bool) : D → Option D
  | .lst xs => (blsOf xs).map fun l => .bl (f l)
  | _ => none
def onInts (f : List Int → Option Int) : D → Option D
  | .lst xs => (intsOf xs).bind fun l => (f l).map .int
  | _ => none
def biSum : D → Option D
  | .lst xs => (intsOf xs).map fun l => .int l.sum
  | .tup xs => (intsOf xs).map fun l => .int l.sum
  | _ => none
def biTuple : D → Option D
  | .lst xs => some (.tup xs)
  | .tup xs => some (.tup xs)
  | _ => none
def biList : D → Option D
  | .lst xs => some (.lst xs)
  | .tup xs => some (.lst xs)
  | _ => none
def biAbs : D → Option D
  | .int i =>
        some (.int (if i < 0 then -i else i))
  | _ => none
def biInt : D → Option D
  | .int i => some (.int i)
  | .bl b => some (.int (if b then 1 else 0))
  | _ => none
def biBool : D → Option D
  | .int i => some (.bl (i != 0))
  | .bl b => some (.bl b)
  | _ => none
def minI : List Int → Option Int
  | [] => none
  | i :: r => some (r.foldl min i)
def maxI : List Int → Option Int
  | [] => none
  | i :: r => some (r.foldl max i)
def biMin : List D → Option D
  | [x] => onInts minI x
  | [.int i, .int j] => some (.int (if j < i then j else i))
  | _ => none
def biMax : List D → Option D
  | [x] => onInts maxI x
  | [.int i, .int j] => some (.int (if j > i then j else i))
  | _ => none
/-- tuples of ints, none of them empty -/
def tupInts : D → Option (List Int)
  | .tup xs => (intsOf xs).bind fun l => if l = [] then none else some l
  | _ => none
def tupsInts : List D → Option (List (List Int))
  | [] => some []
  | d :: r => (tupInts d).bind fun l => (tupsInts r).map fun ls => l :: ls
def ofInts (l : List Int) : D := .tup (l.map .int)
def biSorted : D → Option D
  | .lst xs => (tupsInts xs).map fun L => .lst ((srtT L).map ofInts)
  | _ => none
/-- each once, as first met -/
def addOnce (acc : List (List Int)) (l : List Int) : List (List Int) := if acc.contains l = true then acc else acc ++ [l]
def once (L : List (List Int)) : List (List Int) := L.foldl addOnce []
def srtOnce (ds : List D) : Option D := (tupsInts ds).bind fun L => if L.length < sizeLine then some (.lst ((srtT (once L)).map ofInts)) else none
/-- sorted(set(xs)) -/
def srtSetD : D → Option D
  | .lst xs => (tupsInts xs).bind fun L => if L.length ≤ 300 then some (.lst ((srtT (once L)).map ofInts)) else none
  | _ => none
def revD : D → Option D
  | .lst xs => some (.lst xs.reverse)
  | _ => none
def biD : Bi → List D → Option D
  | .len, ds => arg1 biLen ds
  | .isi, ds => biIsi ds
  | .all, ds => arg1 (onBls fun l => l.all id) ds
  | .any, ds => arg1 (onBls fun l => l.any id) ds
  | .tuple, ds => arg1 biTuple ds
  | .list, ds => arg1 biList ds
  | .abs, ds => arg1 biAbs ds
  | .int, ds => arg1 biInt ds
  | .bool, ds => arg1 biBool ds
  | .sum, ds => arg1 biSum ds
  | .min, ds => biMin ds
  | .max, ds => biMax ds
  | .sorted, ds => arg1 biSorted ds
def biNames : List (Str × Bi) := [("len", .len), ("isinstance", .isi), ("all", .all), ("any", .any), ("tuple", .tuple), ("list", .list), ("abs", .abs), ("int", .int), ("bool", .bool), ("sum", .sum), ("min", .min), ("max", .max), ("sorted", .sorted)]
def biName (f : Str) : Option Bi := biNames.lookup f
def cutL {α : Type} (xs : List α) (lo hi : Option Int) : List α := (xs.drop (HT.sIx xs.length 0 lo)).take (HT.sIx xs.length xs.length hi - HT.sIx xs.length 0 lo)
def sliceD : D → Option Int → Option Int → Option D
  | .tup xs, lo, hi => some (.tup (cutL xs lo hi))
  | .lst xs, lo, hi => some (.lst (cutL xs lo hi))
  | _, _, _ => none

/-! ### targets -/
mutual
def bindT : CT → D → List (Option D) → Option (List (Option D))
  | .v i, d, ρ => if i < ρ.length then some (ρ.set i (some d)) else none
  | .t es, .tup ds, ρ => bindTs es ds ρ
  | _, _, _ => none
def bindTs : List CT → List D → List (Option D) → Option (List (Option D))
  | [], [], ρ => some ρ
  | e :: es, d :: ds, ρ => (bindT e d ρ).bind fun ρ' => bindTs es ds ρ'
  | _, _, _ => none
end
def wipeD (ρ : List (Option D)) : List Nat → List (Option D)
  | [] => ρ
  | v :: vs => (wipeD ρ vs).set v none

/-! ### what is walked -/
def seqD : D → Option (List D)
  | .tup xs => some xs
  | .lst xs => some xs
  | _ => none
def zipD : List D → List D → List D
  | a :: as, b :: bs => .tup [a, b] :: zipD as bs
  | _, _ => []
def rangeD (lo hi : Int) : List D := (List.range (hi - lo).toNat).map fun (k : Nat) => D.int (lo + (k : Int))
def enumD : Nat → List D → List D
  | _, [] => []
  | k, d :: ds => .tup [.int k, d] :: enumD (k + 1) ds
def compGo (body : D → M (Option D)) : List D → List D → M (List D)
  | [], acc => ret acc
  | d :: ds, acc => bnd (body d) fun r => compGo body ds (match r with
    | some x => acc ++ [x]
    | none => acc)
def compGoZ (body : D → M (Option D)) : List D → List D → M (List D)
  | [], acc => ret acc
  | d :: ds, acc => bnd (body d) fun r => match r with
    | some x => if acc.length < 16777216 then compGoZ body ds (acc ++ [x]) else stuck
    | none => compGoZ body ds acc
/-- a comprehension with two clauses: the inner loop's outcome is the new list -/
def compGo2 (body : D → List D → M (List D)) : List D → List D → M (List D)
  | [], acc => ret acc
  | d :: ds, acc => bnd (body d acc) fun r => compGo2 body ds r
def inR (j : Int) : Bool := decide (-(2 ^ 62) ≤ j) && decide (j < 2 ^ 62)

def negD : D → Option D
  | .int i => some (.int (-i))
  | _ => none
def partD : D → Option (Option Int)
  | .int i => some (some i)
  | _ => none
def rng1D : D → Option (List D)
  | .int j => if inR j = true ∧ j ≤ sizeLine then some (rangeD 0 j) else none
  | _ => none
def rng2D : D → D → Option (List D)
  | .int i, .int j => if inR i = true ∧ inR j = true ∧ j - i ≤ sizeLine then some (rangeD i j) else none
  | _, _ => none

def mapO {α β : Type} (f : α → Option β) : List α → Option (List β)
  | [] => some []
  | a :: r => (f a).bind fun b => (mapO f r).map fun l => b :: l
/-- what is heard of an error: its word, its fields -/
def heardD (hk : List (Str × Str × List Str)) (c : Str) (fs : List (Str × D)) : Option D := (hk.lookup c).bind fun w => (mapO (fun x => fs.lookup x) w.2).map fun ds => .tup (.str w.1 :: ds)
def heardM (hk : List (Str × Str × List Str)) (m : M D) : M D := fun s => match m s with
  | .ok d s' => .ok (.lst [d]) s'
  | .exc c fs s' => ofO (heardD hk c fs) s'
  | .stuck => .stuck
def attD (f : Str) : D → Option D
  | .exn _ fv => (fv.lookup f).map .raw
  | _ => none
/-- the def that a value is, if it is one of those -/
def fnD (ok : List Str) : D → Option Str
  | .fn x => if ok.contains x = true then some x else none
  | _ => none
/-! ### expressions -/
mutual
def ev (cs : CS) : CE → List (Option D) → M D
  | .const d, _ => ret d
  | .var i, ρ => ofO (ρ[i]?).join
  | .bin op a b, ρ => bnd (ev cs a ρ) fun x => bnd (ev cs b ρ) fun y => ofO (binD op x y)
  | .not a, ρ => bnd (ev cs a ρ) fun x => bnd (ofO (truD x)) fun b => ret (.bl (!b))
  | .neg a, ρ => bnd (ev cs a ρ) fun x => ofO (negD x)
  | .and a b, ρ => bnd (ev cs a ρ) fun x => bnd (ofO (truD x)) fun c => if c = true then ev cs b ρ else ret x
  | .or a b, ρ => bnd (ev cs a ρ) fun x => bnd (ofO (truD x)) fun c => if c = true then ret x else ev cs b ρ
  | .isN a, ρ => bnd (ev cs a ρ) fun x => ret (.bl (isNon x))
  | .notN a, ρ => bnd (ev cs a ρ) fun x => ret (.bl (!isNon x))
  | .cmp op a b, ρ => bnd (ev cs a ρ) fun x => bnd (ev cs b ρ) fun y => bnd (ofO (cmpD op x y)) fun c => ret (.bl c)
  | .chain op op' a b c, ρ => bnd (ev cs a ρ) fun x => bnd (ev cs b ρ) fun y => bnd (ofO (cmpD op x y)) fun k =>
      if k = true then bnd (ev cs c ρ) fun z => bnd (ofO (cmpD op' y z)) fun k' => ret (.bl k') else ret (.bl false)
  | .ite t a b, ρ => bnd (ev cs t ρ) fun x => bnd (ofO (truD x)) fun c => if c = true then ev cs a ρ else ev cs b ρ
  | .call f args, ρ => bnd (evs cs args ρ) fun ds => cs f ds
  | .callV i ok args, ρ => bnd (ofO (ρ[i]?).join) fun d => bnd (ofO (fnD ok d)) fun x => bnd (evs cs args ρ) fun ds => cs x ds
  | .callK f ix args, ρ => bnd (evs cs args ρ) fun ds => bnd (ofO (mapO (fun i => ds[i]?) ix)) fun es => cs f es
  | .bi b args, ρ => bnd (evs cs args ρ) fun ds => ofO (biD b ds)
  | .tup es, ρ => bnd (evs cs es ρ) fun ds => ret (.tup ds)
  | .lst es, ρ => bnd (evs cs es ρ) fun ds => ret (.lst ds)
  | .ix a i, ρ => bnd (ev cs a ρ) fun x => bnd (ev cs i ρ) fun y => ixM x y
  | .sl a lo hi, ρ => bnd (ev cs a ρ) fun x => bnd (evP cs lo ρ) fun l => bnd (evP cs hi ρ) fun h => ofO (sliceD x l h)
  | .lc own tg it ifs elt, ρ => bnd (evI cs it ρ) fun ds =>
      bnd (noX (compGo (fun d => bnd (ofO (bindT tg d (wipeD ρ own))) fun ρ' => bnd (evTs cs ifs ρ') fun c =>
        if c = true then bnd (ev cs elt ρ') fun x => ret (some x) else ret none) ds [])) fun out => ret (.lst out)
  | .lc2 own own1 tg it ifs tg1 it1 ifs1 elt, ρ => bnd (evI cs it ρ) fun ds =>
      bnd (noX (compGo2 (fun d acc => bnd (ofO (bindT tg d (wipeD ρ own))) fun ρ' => bnd (evTs cs ifs ρ') fun c =>
        if c = true then bnd (evI cs it1 ρ') fun ds1 => compGoZ (fun d1 => bnd (ofO (bindT tg1 d1 (wipeD ρ' own1))) fun ρ'' => bnd (evTs cs ifs1 ρ'') fun c1 =>
          if c1 = true then bnd (ev cs elt ρ'') fun x => ret (some x) else ret none) ds1 acc else ret acc) ds [])) fun out => ret (.lst out)
  | .rev a, ρ => bnd (ev cs a ρ) fun x => ofO (revD x)
  | .tupS es, ρ => bnd (evSt cs es ρ) fun ds => ofO (if ds.length ≤ 1000 then some (.tup ds) else none)
  | .srtDc _ i it, ρ => bnd (evI cs it ρ) fun ds => ofO (if i < ρ.length then srtOnce ds else none)
  | .srtSet a, ρ => bnd (ev cs a ρ) fun x => ofO (srtSetD x)
  | .dict0, _ => ret .dic
  | .heard hk e, ρ => heardM hk (ev cs e ρ)
  | .att e f, ρ => bnd (ev cs e ρ) fun x => ofO (attD f x)
  | .iRng1 _, _ | .iRng2 _ _, _ | .iZip _ _, _ | .iEnum _, _ | .iVal _, _ => stuck
def evs (cs : CS) : List CE → List (Option D) → M (List D)
  | [], _ => ret []
  | e :: es, ρ => bnd (ev cs e ρ) fun d => bnd (evs cs es ρ) fun ds => ret (d :: ds)
/-- a tuple's parts, some of them starred -/
def evSt (cs : CS) : List (Bool × CE) → List (Option D) → M (List D)
  | [], _ => ret []
  | (b, e) :: es, ρ => if b = true then bnd (ev cs e ρ) fun d => bnd (ofO (seqD d)) fun xs => bnd (evSt cs es ρ) fun ds => ret (xs ++ ds)
      else bnd (ev cs e ρ) fun d => bnd (evSt cs es ρ) fun ds => ret (d :: ds)
def evP (cs : CS) : Option CE → List (Option D) → M (Option Int)
  | none, _ => ret none
  | some e, ρ => bnd (ev cs e ρ) fun d => ofO (partD d)
def evTs (cs : CS) : List CE → List (Option D) → M Bool
  | [], _ => ret true
  | [c], ρ => bnd (ev cs c ρ) fun x => ofO (truD x)
  | _ :: _ :: _, _ => stuck
/-- the items of what is walked -/
def evI (cs : CS) : CE → List (Option D) → M (List D)
  | .iRng1 a, ρ => bnd (ev cs a ρ) fun x => ofO (rng1D x)
  | .iRng2 a b, ρ => bnd (ev cs a ρ) fun x => bnd (ev cs b ρ) fun y => ofO (rng2D x y)
  | .iZip a b, ρ => bnd (ev cs a ρ) fun x => bnd (ev cs b ρ) fun y => ofO ((seqD x).bind fun xs => (seqD y).map fun ys => zipD xs ys)
  | .iEnum a, ρ => bnd (ev cs a ρ) fun x => ofO ((seqD x).map (enumD 0))
  | .iVal a, ρ => bnd (ev cs a ρ) fun x => ofO (seqD x)
  | _, _ => stuck
end

/-! ### from the text -/
def locN (sc : Scope) (x : Str) : Bool := match sc.names.lookup x with
  | some .local => true
  | some .cell => true
  | _ => false
def visN (sc : Scope) (x : Str) : Bool := match sc.names.lookup x with
  | some .local => true
  | some .cell => true
  | some .free => true
  | _ => false
def okName (x : Str) : Bool := !(x == ("__debug__" : Str)) && !(x == ("__classdict__" : Str)) && !(x == ("__name__" : Str))
def glN (sc : Scope) (x : Str) : Bool := decide (sc.names.lookup x = some .globalImplicit)
def ownOf (N : List Str) (scope : Scope) : List (Str × Nat) := scope.names.filterMap fun p => match p.2 with
  | .local => (slotN N p.1).map fun i => (p.1, i)
  | .cell => (slotN N p.1).map fun i => (p.1, i)
  | _ => none
mutual
def cT (N : List Str) (sc : Scope) : Expr → Option CT
  | .Name x _ => if locN sc x = true then (slotN N x).map .v else none
  | .Tuple es _ _ => (cTs N sc es).map .t
  | _ => none
def cTs (N : List Str) (sc : Scope) : List Expr → Option (List CT)
  | [] => some []
  | e :: es => (cT N sc e).bind fun c => (cTs N sc es).map fun l => c :: l
end
mutual
def tslots : CT → List Nat
  | .v i => [i]
  | .t l => tslotss l
def tslotss : List CT → List Nat
  | [] => []
  | c :: l => tslots c ++ tslotss l
end
def subL (a b : List Nat) : Bool := a.all fun i => b.contains i
def hasStar : List Expr → Bool
  | [] => false
  | .Starred _ _ :: _ => true
  | _ :: r => hasStar r
/-- {x: True for x in e} -/
def isDcE : Expr → Option (Str × Expr × Scope)
  | .DictComp (.Name x _) (.Constant (.bool true) _ _) [⟨.Name y _, iter, [], 0⟩] scope _ => if x = y then some (x, iter, scope) else none
  | _ => none
/-- set(e) -/
def isSetE : Expr → Option Expr
  | .Call (.Name f _) [b] [] _ => if f = "set" then some b else none
  | _ => none
/-- a lambda without parameters -/
def isLamE : Expr → Option (Expr × Scope)
  | .Lambda { posonlyargs := [], args := [], vararg := none, kwonlyargs := [], kw_defaults := [], kwarg := none, defaults := [] } body scope _ => some (body, scope)
  | _ => none
/-- the defs of n parameters -/
def Tx.fnsOf (T : Tx) (n : Nat) : List Str := (T.fns.map (·.name)).filter fun x => match T.fn x with
  | some fn => fn.ps.length == n
  | none => false
/-- a lambda of one parameter, a number its default -/
def isLamD : Expr → Option (Str × Expr × Scope)
  | .Lambda { posonlyargs := [], args := [a], vararg := none, kwonlyargs := [], kw_defaults := [], kwarg := none, defaults := [.Constant (.int _) _ _] } body scope _ => some (a.arg, body, scope)
  | _ => none
/-- its parameter stands for no name of the def's, it has no cell, the rest is captured or global -/
def lamDB (N : List Str) (sc scope : Scope) (y : Str) : Bool :=
  decide (scope.kind = .function) && (!scope.isCoroutine && (!scope.isGenerator && (decide (scope.names.lookup y = some .local) && (decide (y ∉ N) && scope.names.all fun z => !decide (z.2 = .cell) && ((!decide (z.2 = .local) || decide (z.1 = y)) && (!decide (z.2 = .free) || (decide (sc.names.lookup z.1 = some .cell) || decide (sc.names.lookup z.1 = some .free))))))))
def isTup : Expr → Bool
  | .Tuple _ _ _ => true
  | _ => false
/-- what a for walks, the target told -/
def cI (T : Tx) (cE : Scope → Expr → Option CE) (sc : Scope) (tg : Expr) (e : Expr) : Option CE :=
  match e with
  | .Call (.Name f _) [a] [] _ =>
    if f = "range" ∧ T.free.contains f = true ∧ glN sc f = true then (cE sc a).map .iRng1
    else if f = "enumerate" ∧ T.free.contains f = true ∧ glN sc f = true ∧ isTup tg = true then (cE sc a).map .iEnum
    else (cE sc e).map .iVal
  | .Call (.Name f _) [a, b] [] _ =>
    if f = "range" ∧ T.free.contains f = true ∧ glN sc f = true then (cE sc a).bind fun x => (cE sc b).map fun y => .iRng2 x y
    else if f = "zip" ∧ T.free.contains f = true ∧ glN sc f = true ∧ isTup tg = true then (cE sc a).bind fun x => (cE sc b).map fun y => .iZip x y
    else (cE sc e).map .iVal
  | e => (cE sc e).map .iVal
def cE (T : Tx) (N : List Str) : Nat → Scope → Expr → Option CE
  | 0, _, _ => none
  | n + 1, sc, e => match e with
    | .Constant c _ _ => (constD c).map .const
    | .Name x _ => if okName x = true then (if visN sc x = true then (slotN N x).map .var else if glN sc x = true then (globD T x).map .const else none) else none
    | .BinOp a op b _ => (cE T N n sc a).bind fun x => (cE T N n sc b).map fun y => .bin op x y
    | .UnaryOp .Not a _ => (cE T N n sc a).map .not
    | .UnaryOp .USub a _ => (cE T N n sc a).map .neg
    | .BoolOp _ [a] _ => cE T N n sc a
    | .BoolOp .And (a :: b :: r) p => (cE T N n sc a).bind fun x => (cE T N n sc (.BoolOp .And (b :: r) p)).map fun y => .and x y
    | .BoolOp .Or (a :: b :: r) p => (cE T N n sc a).bind fun x => (cE T N n sc (.BoolOp .Or (b :: r) p)).map fun y => .or x y
    | .Compare a [.Is] [.Constant .none _ _] _ => (cE T N n sc a).map .isN
    | .Compare a [.IsNot] [.Constant .none _ _] _ => (cE T N n sc a).map .notN
    | .Compare a [op] [b] _ => if op ≠ .In ∧ op ≠ .NotIn then (cE T N n sc a).bind fun x => (cE T N n sc b).map fun y => .cmp op x y else none
    | .Compare a [op, op'] [b, c] _ => if op ≠ .In ∧ op ≠ .NotIn ∧ op' ≠ .In ∧ op' ≠ .NotIn then
        (cE T N n sc a).bind fun x => (cE T N n sc b).bind fun y => (cE T N n sc c).map fun z => .chain op op' x y z else none
    | .IfExp t a b _ => (cE T N n sc t).bind fun z => (cE T N n sc a).bind fun x => (cE T N n sc b).map fun y => .ite z x y
    | .Call (.Name f _) (a :: args) [] _ =>
      if okName f = true ∧ glN sc f = true then if f = "_law_heard" ∧ args = [] ∧ T.lam = true then match isLamD a with
        | some r => if lamDB N sc r.2.2 r.1 = true then (cE { T with lam := false } N n r.2.2 r.2.1).map (.heard T.hk) else none
        | none => (isLamE a).bind fun r => if LamX.lamSB sc r.2 = true then (cE { T with lam := false } N n r.2 r.1).map (.heard T.hk) else none
        else if f = "sorted" ∧ args = [] ∧ (isDcE a).isSome = true then (isDcE a).bind fun r =>
          if T.free.contains f = true ∧ (T.fn f).isNone = true ∧ okName r.1 = true ∧ blkC N sc r.2.2 (ownOf N r.2.2) = true ∧ visN (relS r.2.2 sc) r.1 = true then
            (cI T (cE T N n) sc (.Name r.1 ⟨0, 0, 0, 0⟩) r.2.1).bind fun it => (cT N r.2.2 (.Name r.1 ⟨0, 0, 0, 0⟩)).bind fun t => (slotN N r.1).bind fun i =>
              if ((ownOf N r.2.2).map (·.2)).contains i = true then some (.srtDc ((ownOf N r.2.2).map (·.2)) i it) else none
          else none
        else if f = "sorted" ∧ args = [] ∧ (isSetE a).isSome = true then (isSetE a).bind fun b =>
          if T.free.contains f = true ∧ (T.fn f).isNone = true ∧ T.free.contains "set" = true ∧ glN sc "set" = true then (cE T N n sc b).map .srtSet else none
        else (mapO (cE T N n sc) (a :: args)).bind fun ds => match T.fn f with
        | some fn => if fn.ps.length = ds.length then some (.call f ds) else none
        | none => if T.free.contains f = true then (biName f).map fun b => .bi b ds else none
      else if okName f = true ∧ visN sc f = true ∧ T.free.contains f = false then (slotN N f).bind fun i => (mapO (cE T N n sc) (a :: args)).map fun ds => .callV i (T.fnsOf ds.length) ds
      else none
    | .Call (.Name f _) [] (q :: qs) _ =>
      if okName f = true ∧ glN sc f = true then (mapO (fun k => k.arg) (q :: qs)).bind fun ks => (mapO (fun k => cE T N n sc k.value) (q :: qs)).bind fun ds => (T.kws.find? fun r => decide (r.1 = f ∧ r.2.1 = ks)).bind fun r => match T.fn f with
        | some fn => if r.2.2.length = fn.ps.length then some (.callK f r.2.2 ds) else none
        | none => none
      else none
    | .Tuple es _ _ => if hasStar es = true then (mapO (fun e => match e with
        | .Starred e' _ => (cE T N n sc e').map fun c => (true, c)
        | e' => (cE T N n sc e').map fun c => (false, c)) es).map .tupS
      else if es.length ≤ 1000 then (mapO (cE T N n sc) es).map .tup else none
    | .Dict [] [] _ => some .dict0
    | .List es _ => if es.length ≤ 1000 then (mapO (cE T N n sc) es).map .lst else none
    | .Subscript a (.Slice lo hi none _) _ => (cE T N n sc a).bind fun x => (match lo with
        | none => some none
        | some e => (cE T N n sc e).map some).bind fun l => (match hi with
        | none => some none
        | some e => (cE T N n sc e).map some).map fun h => .sl x l h
    | .Subscript a (.Slice none none (some (.UnaryOp .USub (.Constant (.int 1) _ _) _)) _) _ => (cE T N n sc a).map .rev
    | .Subscript _ (.Slice _ _ _ _) _ => none
    | .Subscript _ (.Tuple _ _ _) _ => none
    | .Attribute (.Name x p) f _ => (cE T N n sc (.Name x p)).map fun c => .att c f
    | .Subscript a i _ => (cE T N n sc a).bind fun x => (cE T N n sc i).map fun y => .ix x y
    | .ListComp elt [⟨tg, iter, ifs, ai⟩] scope _ =>
      if ai = 0 ∧ blkC N sc scope (ownOf N scope) = true ∧ ifs.length ≤ 1 then
        (cI T (cE T N n) sc tg iter).bind fun it => (cT N scope tg).bind fun t => (mapO (cE T N n (relS scope sc)) ifs).bind fun fs => (cE T N n (relS scope sc) elt).bind fun el =>
          if subL (tslots t) ((ownOf N scope).map (·.2)) = true then some (.lc ((ownOf N scope).map (·.2)) t it fs el) else none
      else none
    | .ListComp elt [⟨tg, iter, ifs, ai⟩, ⟨tg1, iter1, ifs1, ai1⟩] scope _ =>
      if ai = 0 ∧ ai1 = 0 ∧ blkC N sc scope (ownOf N scope) = true ∧ ifs.length ≤ 1 ∧ ifs1.length ≤ 1 then
        (cI T (cE T N n) sc tg iter).bind fun it => (cT N scope tg).bind fun t => (mapO (cE T N n (relS scope sc)) ifs).bind fun fs =>
        (cI T (cE T N n) (relS scope sc) tg1 iter1).bind fun it1 => (cT N scope tg1).bind fun t1 => (mapO (cE T N n (relS scope sc)) ifs1).bind fun fs1 => (cE T N n (relS scope sc) elt).bind fun el =>
          if subL (tslots t) ((ownOf N scope).map (·.2)) = true ∧ subL (tslots t1) ((ownOf N scope).map (·.2)) = true then
            some (.lc2 ((ownOf N scope).map (·.2)) (tslots t1) t it fs t1 it1 fs1 el) else none
      else none
    | _ => none
end Pur

/-! Pur3: readings of the interpreter; operators, displays, calls. -/
namespace Pur
open
    PySem PySem.Spec PyProof.Rows L2

def Post {α β : Type} (K : PySem.W.Frag) (g : G) (E : XK) (F H : Hp) (r : Rs α) (Rel : Hp → α → β → Prop) (Q : β → Hp → Prop) : Prop := match r with
  | .ok a S' => ∀ F' H' b, Fwd g F H F' H' S' → Rel F' a b → Q b H'
  | .exc c fs S' => ∀ F' H' dx fv, Fwd g F H F' H' S' → H' dx = some (.xd fv) → RepF K g F' fs fv → E (.ref (He.ga K c)) (some dx) H'
  | .stuck => False
def RepD (K : PySem.W.Frag) (g : G) : Hp → D → V → Prop := fun F d v => Rep K g F d v
def RepsD (K : PySem.W.Frag) (g : G) : Hp → List D → List V → Prop := fun F d v => Reps K g F d v
def RepI {α : Type} : Hp → α → α → Prop := fun _ a b => a = b
section
variable {α β γ δ : Type} {K : PySem.W.Frag} {g : G} {E : XK} {F H F1 H1 : Hp} {Rel : Hp → α → β → Prop} {Q : β → Hp → Prop} {S S1 : Pn}
theorem Post.fwd {r : Rs α} (h : Post K g E F H r Rel Q) (f : Fwd g F H F1 H1 S1) : Post K g E F1 H1 r Rel Q := by
  cases r with
  | ok a S' => exact fun F' H' b k r => h F' H' b (f.trans k) r
  | exc c fs S' => exact fun F' H' dx fv k e r => h F' H' dx fv (f.trans k) e r
  | stuck => exact h
theorem Post.bind {m : M γ} {k : γ → M α} (h : Post K g E F H (bnd m k S) Rel Q) (Rel1 : Hp → γ → δ → Prop) :
    Post K g E F H (m S) Rel1 (fun c H1 => ∃ a F1 S1, Fwd g F H F1 H1 S1 ∧ Rel1 F1 a c ∧ Post K g E F1 H1 (k a S1) Rel Q) := by
  unfold bnd at h
  cases e : m S with
  | ok a S' =>
    rw [e] at h
    exact fun F' H' b f r => ⟨a, F', S', f, r, Post.fwd h f⟩
  | exc c fs S' => rw [e] at h; exact h
  | stuck => rw [e] at h; exact h
theorem Post.some {o : Option γ} {k : γ → M α} (h : Post K g E F H (bnd (ofO o) k S) Rel Q) : ∃ a, o = .some a ∧ Post K g E F H (k a S) Rel Q := by
  cases o with
  | none => exact h.elim
  | some a => exact ⟨a, rfl, h⟩
theorem Post.ofO {o : Option α} (h : Post K g E F H (ofO o S) Rel Q) : ∃ a, o = .some a ∧ ∀ F' H' b, Fwd g F H F' H' S → Rel F' a b → Q b H' := by
  cases o with
  | none => exact h.elim
  | some a => exact ⟨a, rfl, h⟩
theorem Post.imp {Q' : β → Hp → Prop} {r : Rs α} (h : Post K g E F H r Rel Q) (w : ∀ b H', Q b H' → Q' b H') : Post K g E F H r Rel Q' := by
  cases r with
  | ok a S' => exact fun F' H' b f r => w _ _ (h F' H' b f r)
  | exc c fs S' => exact h
  | stuck => exact h
end
/-- an expression's reading -/
def tD (K : PySem.W.Frag) (g : G) (E : XK) (f : List (Option D) → M D) : TE := fun σ H Q => ∃ F ρ S, Stt K g F H σ ρ S ∧ Post K g E F H (f ρ S) (RepD K g) Q
def tDs (K : PySem.W.Frag) (g : G) (E : XK) (f : List (Option D) → M (List D)) : TA := fun σ H Q => ∃ F ρ S, Stt K g F H σ ρ S ∧ Post K g E F H (f ρ S) (RepsD K g) Q
def tDB (K : PySem.W.Frag) (g : G) (E : XK) (f : List (Option D) → M Bool) : TT := fun σ H Q => ∃ F ρ S, Stt K g F H σ ρ S ∧ Post K g E F H (f ρ S) RepI Q
def tDP (K : PySem.W.Frag) (g : G) (E : XK) (f : List (Option D) → M (Option Int)) : TO := fun σ H Q => ∃ F ρ S, Stt K g F H σ ρ S ∧ Post K g E F H (f ρ S) RepI Q
abbrev PD (X : Cx) (g : G) (E : XK) (e : Expr) (f : List (Option D) → M D) : Prop := PE X e (tD X.K g E f)
abbrev PDs (X : Cx) (g : G) (E : XK) (es : List Expr) (f : List (Option D) → M (List D)) : Prop := PA X es (tDs X.K g E f)
abbrev PDB (X : Cx) (g : G) (E : XK) (e : Expr) (f : List (Option D) → M Bool) : Prop := PT X e (tDB X.K g E f)
section
variable {X : Cx} {g : G} {E : XK}
theorem PE.weak {e : Expr} {t t' : TE} (h : PE X e t) (w : ∀ σ H Q, t' σ H Q → t σ H Q) : PE X e t' := ⟨fun pins s σ H Q I q => h.run pins s σ H Q I (w _ _ _ q)⟩
theorem PT.weak {e : Expr} {t t' : TT} (h : PT X e t) (w : ∀ σ H Q, t' σ H Q → t σ H Q) : PT X e t' := ⟨fun pins s σ H Q I q => h.run pins s σ H Q I (w _ _ _ q)⟩
theorem PW.weak {e : Expr} {t t' : TT} (h : PW X e t) (w : ∀ σ H Q, t' σ H Q → t σ H Q) : PW X e t' := ⟨fun wh pins s σ H Q I q => h.run wh pins s σ H Q I (w _ _ _ q)⟩
theorem PA.weak {e : List Expr} {t t' : TA} (h : PA X e t) (w : ∀ σ H Q, t' σ H Q → t σ H Q) : PA X e t' := ⟨fun p pins s σ H Q I q => h.run p pins s σ H Q I (w _ _ _ q)⟩
theorem PO.weak {e : Option Expr} {t t' : TO} (h : PO X e t) (w : ∀ σ H Q, t' σ H Q → t σ H Q) : PO X e t' := ⟨fun pins s σ H Q I q => h.run pins s σ H Q I (w _ _ _ q)⟩
/-- what a heap that is held tells: no list, no tuple is too long -/
def Sized (H : Hp) : Prop := ∀ a xs, (H a = some (.lst xs) ∨ H a = some (.tup xs)) → xs.length ≤ sizeLine
theorem Inv.sized {pins : List (Addr × Obj)} {σ : L2.St} {H : Hp} {s : Shared} (I : L2.Inv X pins σ H s) : Sized H := fun a xs h => by
  rcases h with h | h
  · exact (I.hok a _ h).1
  · exact (I.hok a _ h).1
theorem PE.sized {e : Expr} {t : TE} (h : PE X e t) : PE X e (fun σ H Q => Sized H → t σ H Q) := ⟨fun pins s σ H Q I q => h.run pins s σ H Q I (q (Inv.sized I))⟩

/-- how a def is called by keywords alone -/
def KwB (K : PySem.W.Frag) (fd : FuncData) (ps ks : List Str) (ix : List Nat) : Prop := ∀ (s : Shared) (ws : List Value), ws.length = ks.length → BindsTo s fd ⟨[], ks.zip ws⟩ (ps.zip (ix.filterMap fun i => ws[i]?))
/-- the context and the table of defs, together -/
structure Wf (T : Tx) (g : G) (cs : CS) (k : Nat) (P : Program) (w : World) (K : PySem.W.Frag) (mg : Str → Option Value) (base : Heap) : Prop where
  fn : ∀ x fn, T.fn x = some fn → mg x = some (.ref (He.ga K x)) ∧ PySem.W.keepIn K (.ref (He.ga K x)) = true ∧ ∃ fd, Binds K fd fn.ps [] ∧ (∀ ks ix, (x, ks, ix) ∈ T.kws → KwB K fd fn.ps ks ix) ∧
    FnOk P w K mg base (L2.CX P w) k (He.ga K x) fd fn.ps (fun vs H Q E => ∃ F ds S, Same F H ∧ PenOk g F H S ∧ Reps K g F ds vs ∧ ds.length = fn.ps.length ∧ Post K g E F H (cs x ds S) (RepD K g) Q)
  free : ∀ x, T.free.contains x = true → mg x = none
  int : ∀ x i, T.cInt.lookup x = some i → ∃ t, mg x = some (.int i t)
  str : ∀ x i, T.cStr.lookup x = some i → ∃ t, mg x = some (.str i t)
  cls : ∀ x, T.clss.contains x = true → mg x = some (.ref (He.ga K x))
/-- what the def that hears makes of what it gets -/
def TTh (K : PySem.W.Frag) (g : G) (hk : List (Str × Str × List Str)) : (XK → Hp → VK → Prop) → Hp → VK → Prop := fun tl H Q =>
  ∃ F S, Same F H ∧ PenOk g F H S ∧ ∀ F1 H1, Fwd g F H F1 H1 S →
    tl (fun cls d H' => ∃ c dx fv F' S' w vs, cls = .ref (He.ga K c) ∧ d = some dx ∧ H' dx = some (.xd fv) ∧ Fwd g F1 H1 F' H' S' ∧ hk.lookup c = some w ∧ mapO (fun x => fv.lookup x) w.2 = some vs ∧
        ∀ F'' H'' p, Fwd g F' H' F'' H'' S' → F'' p = some (.tup (.str w.1 :: vs)) → Q (.ref p) H'') H1
      fun v H' => ∃ F' d S', Fwd g F1 H1 F' H' S' ∧ Rep K g F' d v ∧ ∀ F'' H'' v'', Fwd g F' H' F'' H'' S' → Rep K g F'' (.lst [d]) v'' → Q v'' H''
/-- lambdas are served: the def that hears, the table of the def's own code objects -/
structure LamOk (T : Tx) (g : G) (k : Nat) (X : Cx) : Prop where
  ex : ∃ (c P gA : Addr) (pg : Arguments) (bg : List Stmt) (sg : Scope) (dV kV doc pm cdv ct oc : Value) (an od : Option Addr) (osl : Array (Option Value)) (Ng : List Str) (a : Str),
    X.mg "_law_heard" = some (.ref gA) ∧ PySem.W.keepIn X.K (.ref gA) = true ∧ X.K.lookup gA = some ⟨oc, od, .func (PySem.W.fnOf "_law_heard" "_law_heard" pg bg sg dV kV doc pm an cdv ct), osl⟩ ∧ PySem.W.codeIn X.K cdv "_law_heard" = true ∧
    Binds X.K (PySem.W.fnOf "_law_heard" "_law_heard" pg bg sg dV kV doc pm an cdv ct) [a] [] ∧ FnScope Ng [a] sg ∧ Ng[0]? = some a ∧ Vis sg a ∧ (a == ("__debug__" : Str)) = false ∧ (a == ("__classdict__" : Str)) = false ∧
    LamX.GivesTo X Ng "_law_heard" sg gA cdv bg a (X.env.qual ++ "<lambda>") (TTh X.K g T.hk) ∧ LamX.TabB X.base X.mg c P ∧ X.env.code = .ref c ∧ (P, X.env.qual ++ "<lambda>") ∈ g.T ∧ ∀ p ∈ g.T, p.1 = P → p.2 = X.env.qual ++ "<lambda>"
  room : Room (k + 2) X.A
  k1 : 1 ≤ k
/-- what the written part tells of the error that is held -/
structure EnOk (K : PySem.W.Frag) (e : En) : Prop where
  z : Zc (.ref (He.ga K e.c)) (some e.dx) e.oe
  f : ∃ vs, e.oe.data = .fields vs
  c : ExcC K (He.ga K e.c)
  x : XfC K (He.ga K e.c)
  is : ∀ C b, e.isx.lookup C = some b → PySem.W.kitOne K (.ref (He.ga K e.c)) (.ref (He.ga K C)) = some b
  no : ∀ f v, e.fv.lookup f = some v → PySem.W.findIn K (.ref (He.ga K e.c)) f = some none ∧ e.fr.lookup f = some v
structure XOk (T : Tx) (g : G) (cs : CS) (N : List Str) (sc : Scope) (E : XK) (k : Nat) (X : Cx) : Prop where
  n : X.N = N
  sc : X.env.scope = sc
  nd : X.N.Nodup
  calm : X.calm = true
  room : Room k X.A
  room1 : Room 1 X.A
  tk : Takes X (fun cls d _ H => E cls d H)
  wf : Wf T g cs k X.prog X.w X.K X.mg X.base
  lam : T.lam = true → LamOk T g k X
  en : ∀ e, g.en = some e → EnOk X.K e

/-! ### names, constants -/
theorem slot_at : ∀ {N : List Str} {x : Str} {i : Nat}, slotN N x = some i → N[i]? = some x
  | [], x, i, h => by simp [slotN] at h
  | y :: r, x, i, h => by
    unfold slotN at h
    by_cases e : y = x
    · rw [if_pos e] at h; cases h; simp [e]
    · rw [if_neg e] at h
      cases q : slotN r x with
      | none => rw [q] at h; cases h
      | some j =>
        rw [q] at h
        cases h
        simpa using slot_at q
theorem vis_of {sc : Scope} {x : Str} (h : visN sc x = true) : Vis sc x := by
  unfold visN at h
  split at h
  · exact .inl (by assumption)
  · exact .inr (.inl (by assumption))
  · exact .inr (.inr (by assumption))
  · cases h
theorem loc_of {sc : Scope} {x : Str} (h : locN sc x = true) : Loc sc x := by
  unfold locN at h
  split at h
  · exact .inl (by assumption)
  · exact .inr (by assumption)
  · cases h
structure OkName (x : Str) : Prop where
  d : (x == ("__debug__" : Str)) = false
  c : (x == ("__classdict__" : Str)) = false
  n : x ≠ ("__name__" : Str)
theorem okName_of {x : Str} (h : okName x = true) : OkName x := by
  unfold okName at h
  simp
      only [Bool.and_eq_true, Bool.not_eq_true'] at h
  exact ⟨h.1.1, h.1.2, fun e => by rw [e] at h; simp at h⟩
theorem pd_var {i : Nat} {x : Str} {pos : Pos} (hN : X.N[i]? = some x) (hv : Vis X.env.scope x) (o : OkName x) : PD X g E (.Name x pos) (fun ρ => ofO (ρ[i]?).join) := by
  refine PE.weak (pe_var hN hv o.d o.c) fun σ H Q h => ?_
  obtain ⟨F, ρ, S, st, p⟩ := h
  obtain ⟨d, e, q⟩ := p.ofO
  have e' : ρ[i]? = some (some d) := by
    cases z : ρ[i]? with
    | none => rw [z] at e; cases e
    | some y =>
      rw [z] at e
      cases y with
      | none => cases e
      | some w => cases e; rfl
  obtain ⟨v, hv, r⟩ := st.env i d e'
  exact ⟨v, hv, q F H v st.refl r⟩
/-- a constant that is no object -/
def CV (K : PySem.W.Frag) (d : D) (v : V) : Prop := ∀ g F, Rep K g F d v
theorem pd_c {e : Expr} {d : D} {v : V} (h : PE X e (tC v)) (c : CV X.K d v) : PD X g E e (fun _ => ret d) := by
  refine PE.weak h fun σ H Q h => ?_
  obtain ⟨F, ρ, S, st, p⟩ := h
  exact p F H v st.refl (c g F)
theorem cv_simple {K : PySem.W.Frag} : CV K .non .non ∧ (∀ b, CV K (.bl b) (.bl b)) ∧ (∀ i, CV K (.int i) (.int i)) ∧ (∀ x, CV K (.str x) (.str x)) ∧ (∀ x, CV K (.fn x) (.ref (He.ga K x))) ∧ (∀ x, CV K (.cls x) (.ref (He.ga K x))) ∧ ∀ n, CV K (.ty n) (.ty n) := by
  refine ⟨?_, ?_, ?_, ?_, ?_, ?_, ?_⟩ <;> (intros; intro g F; simp only [Rep])
theorem pd_const {c : Const} {d : D} {k : Nat} {pos : Pos} (h : constD c = some d) : PD X g E (.Constant c k pos) (fun _ => ret d) := by
  have C := cv_simple (K := X.K)
  cases c with
  | none => cases h; exact pd_c pe_non C.1
  | bool b => cases h; exact pd_c pe_bl (C.2.1 b)
  | int i => cases h; exact pd_c pe_int (C.2.2.1 i)
  | str s => cases h; exact pd_c pe_str (C.2.2.2.1 s)
  | _ => cases h
end
end Pur

/-! Pur4: operators, tests, displays, subscripts. -/
namespace Pur
open
    PySem PySem.Spec PyProof.Rows L2
section
variable {X : Cx} {g : G} {E : XK}
/-! ### data for the layer's == -/
mutual
theorem dp_of {K : PySem.W.Frag} {F H : Hp} (s : Same F H) : ∀ (d : D) (v : V) (p : PyData), Rep K g F d v → D.py d = some p → Dp K H v p
  | .non, v, p, h, e => by simp only [Rep] at h; simp only [D.py] at e; cases e; rw [h]; exact .non
  | .bl b, v, p, h, e => by simp only [Rep] at h; simp only [D.py] at e; cases e; rw [h]; exact .bl b
  | .int i, v, p, h, e => by simp only [Rep] at h; simp only [D.py] at e; cases e; rw [h]; exact .int i
  | .str x, v, p, h, e => by simp only [Rep] at h; simp only [D.py] at e; cases e; rw [h]; exact .str x
  | .tup xs, v, p, h, e => by
    simp only [Rep] at h
    simp only [D.py] at e
    obtain ⟨a, vs, rfl, q, r⟩ := h
    cases z : pys xs with
    | none => rw [z] at e; cases e
    | some ys =>
      rw [z] at e; cases e
      exact .tup (TupAt.sq s q) (dps_of s xs vs ys r z)
  | .lst xs, v, p, h, e => by
    simp only [Rep] at h
    simp only [D.py] at e
    obtain ⟨a, vs, rfl, q, r⟩ := h
    cases z : pys xs with
    | none => rw [z] at e; cases e
    | some ys =>
      rw [z] at e; cases e
      exact .lst (SqL.of (s _ _ q)) (dps_of s xs vs ys r z)
  | .ins c fs, v, p, h, e | .fn x, v, p, h, e | .cls x, v, p, h, e | .ty n, v, p, h, e | .pen, v, p, h, e | .exn _ _, v, p, h, e | .raw _, v, p, h, e | .dic, v, p, h, e => by simp only [D.py] at e; cases e
theorem dps_of {K : PySem.W.Frag} {F H : Hp} (s : Same F H) : ∀ (ds : List D) (vs : List V) (ps : List PyData), Reps K g F ds vs → pys ds = some ps → DpAll K H vs ps
  | [], vs, ps, h, e => by simp only [Reps] at h; simp only [pys] at e; cases e; rw [h]; exact .nil
  | d :: ds, vs, ps, h, e => by
    simp only [Reps] at h
    simp only [pys] at e
    obtain ⟨v, r, rfl, q, t⟩ := h
    cases z : D.py d with
    | none => rw [z] at e; cases e
    | some y =>
      rw [z] at e
      cases z2 : pys ds with
      | none => rw [z2] at e; cases e
      | some ys =>
        rw [z2] at e; cases e
        exact .cons (dp_of s d v y q z) (dps_of s ds r ys t z2)
end

/-! ### binary operators -/
def rBin (K : PySem.W.Frag) (g : G) (op : Operator) : R2 := fun x y H Q => ∃ F S dx dy d, Same F H ∧ PenOk g F H S ∧ Rep K g F dx x ∧ Rep K g F dy y ∧ binD op dx dy = some d ∧ ∀ v F' H', Fwd g F H F' H' S → Rep K g F' d v → Q v H'
theorem ofIf {c : Prop} [Decidable c] {α : Type} {a b : α} (h : (if c then some a else none) = some b) : c ∧ a = b := by
  by_cases k : c
  · rw [if_pos k] at h; cases h; exact ⟨k, rfl⟩
  · rw [if_neg k] at h; cases h
theorem rep_int {K : PySem.W.Frag} {F : Hp} {i : Int} : Rep K g F (.int i) (.int i) := by simp only [Rep]
theorem rep_bl {K : PySem.W.Frag} {F : Hp} {i : Bool} : Rep K g F (.bl i) (.bl i) := by simp only [Rep]
theorem rep_str {K : PySem.W.Frag} {F : Hp} {i : Str} : Rep K g F (.str i) (.str i) := by simp only [Rep]
theorem small_of {i : Int} (h : small i = true) : -(2 ^ 64) < i ∧ i < 2 ^ 64 := by
  unfold small at h
  simpa using h
theorem new_tup {K : PySem.W.Frag} {F H : Hp} {S : Pn} {xs : List D} {vs : List V} {Q : V → Hp → Prop} {p : Addr} (fh : Same F H) (pn : PenOk g F H S) (r : Reps K g F xs vs) (hp : H p = none)
    (q : ∀ v F' H', Fwd g F H F' H' S → Rep K g F' (.tup xs) v → Q v H') : Q (.ref p) (upd H p (.tup vs)) := by
  have f : Fwd g F H (upd F p (.tup vs)) (upd H p (.tup vs)) S := Fwd.new fh pn hp (fun _ z => nomatch z)
  refine q _ _ _ f ?_
  simp only [Rep]
  exact ⟨p, vs, rfl, upd_same, f.tos r⟩
theorem new_lst {K : PySem.W.Frag} {F H : Hp} {S : Pn} {xs : List D} {vs : List V} {Q : V → Hp → Prop} {p : Addr} (fh : Same F H) (pn : PenOk g F H S) (r : Reps K g F xs vs) (hp : H p = none)
    (q : ∀ v F' H', Fwd g F H F' H' S → Rep K g F' (.lst xs) v → Q v H') : Q (.ref p) (upd H p (.lst vs)) := by
  have f : Fwd g F H (upd F p (.lst vs)) (upd H p (.lst vs)) S := Fwd.new fh pn hp (fun _ z => nomatch z)
  refine q _ _ _ f ?_
  simp only [Rep]
  exact ⟨p, vs, rfl, upd_same, f.tos r⟩
theorem Reps.rep {K : PySem.W.Frag} {F : Hp} {xs : List D} {vs : List V} (r : Reps K g F xs vs) : ∀ n : Nat, Reps K g F (List.replicate n xs).flatten (List.replicate n vs).flatten
  | 0 => by simp; exact Reps.nil
  | n + 1 => by
    rw
        [List.replicate_succ, List.replicate_succ, List.flatten_cons, List.flatten_cons]
    exact r.app (Reps.rep r n)
theorem Reps.ne {K : PySem.W.Frag} {F : Hp} {xs : List D} {vs : List V} (r : Reps K g F xs vs) (h : xs ≠ []) : vs ≠ [] := fun e => by
  have := r.len
  rw [e] at this
  cases xs with
  | nil => exact h rfl
  | cons a l => simp at this
theorem op_bin (op : Operator) : OpR X (binaryOp op) (rBin X.K g op) := by
  intro
      pins s σ H x y v u Q I rx ry h
  obtain ⟨F, S, dx, dy, d, fh, pn, r1, r2, e, q⟩ := h
  have fin : ∀ z, Rep X.K g F d z → Q z H := fun z rz => q z F H (Fwd.refl fh pn) rz
  cases dx <;> cases dy <;> cases op <;> simp only [binD] at e <;> (try (cases e; done)) <;> simp only [Rep] at r1 r2
  case int.int.Add i j => subst r1 r2; cases e; exact op_add pins s σ H _ _ v u Q I rx ry ⟨i, j, rfl, rfl, fin _ rep_int⟩
  case int.int.Sub i j => subst r1 r2; cases e; exact op_sub pins s σ H _ _ v u Q I rx ry ⟨i, j, rfl, rfl, fin _ rep_int⟩
  case int.int.Mult i j =>
    subst r1 r2
    obtain ⟨c, rfl⟩ := ofIf e
    refine op_mul pins s σ H _ _ v u Q I rx ry ⟨i, j, rfl, rfl, ?_, fin _ rep_int⟩
    rcases Bool.or_eq_true_iff.mp c with c | c
    · exact .inl (small_of c)
    · exact .inr (small_of c)
  case int.int.FloorDiv i j =>
    subst r1 r2
    obtain ⟨c, rfl⟩ := ofIf e
    exact op_fdiv pins s σ H _ _ v u Q I rx ry ⟨i, j, rfl, rfl, c, fin _ rep_int⟩
  case int.int.Mod i j =>
    subst r1 r2
    obtain ⟨c, rfl⟩ := ofIf e
    exact op_mod pins s σ H _ _ v u Q I rx ry ⟨i, j, rfl, rfl, c, fin _ rep_int⟩
  case int.int.Pow i j =>
    subst r1 r2
    obtain ⟨c, rfl⟩ := ofIf e
    exact op_pow pins s σ H _ _ v u Q I rx ry ⟨i, j, rfl, rfl, c, fin _ rep_int⟩
  case tup.tup.Add a b =>
    obtain ⟨c, rfl⟩ := ofIf e
    obtain ⟨p1, vs, rfl, q1, s1⟩ := r1
    obtain ⟨p2, ws, rfl, q2, s2⟩ := r2
    have k1 : Rep X.K g F (.tup a) (.ref p1) := by simp only [Rep]; exact ⟨p1, vs, rfl, q1, s1⟩
    have k2 : Rep X.K g F (.tup b) (.ref p2) := by simp only [Rep]; exact ⟨p2, ws, rfl, q2, s2⟩
    refine op_catA pins s σ H _ _ v u Q I rx ry ⟨p1, p2, vs, ws, rfl, rfl, TupAt.sq fh q1, TupAt.sq fh q2, by rw [s1.len, s2.len]; exact c, fun z => ?_, fun _ z => ?_, fun _ _ p hp => new_tup fh pn (s1.app s2) hp q⟩
    · have ea : a = [] := by
        have := s1.len
        rw [z] at this
        exact List.eq_nil_of_length_eq_zero this.symm
      subst ea
      exact fin _ k2
    · have eb : b = [] := by
        have := s2.len
        rw [z] at this
        exact List.eq_nil_of_length_eq_zero this.symm
      subst eb
      rw [List.append_nil] at fin
      exact fin _ k1
  case tup.int.Mult a k =>
    by_cases k1 : k = 1
    · rw [if_pos k1] at e
      cases e
      subst k1
      have r0 : Rep X.K g F (.tup a) x := by simp only [Rep]; exact r1
      obtain ⟨p1, vs, rfl, q1, s1⟩ := r1
      subst r2
      exact op_rep1 pins s σ H _ _ v u Q I rx ry ⟨p1, vs, rfl, rfl, TupAt.sq fh q1, fin _ r0⟩
    rw [if_neg k1] at e
    obtain ⟨c, rfl⟩ := ofIf e
    obtain ⟨p1, vs, rfl, q1, s1⟩ := r1
    subst r2
    obtain ⟨c0, c1, c2, c3⟩ := c
    exact op_repT pins s σ H _ _ v u Q I rx ry ⟨p1, k, vs, rfl, rfl, TupAt.sq fh q1, Reps.ne s1 c0, c1, c2, by rw [s1.len]; exact c3, fun p hp => new_tup fh pn (s1.rep _) hp q⟩
  case lst.lst.Add a b =>
    obtain ⟨c, rfl⟩ := ofIf e
    obtain ⟨p1, vs, rfl, q1, s1⟩ := r1
    obtain ⟨p2, ws, rfl, q2, s2⟩ := r2
    exact op_cat pins s σ H _ _ v u Q I rx ry ⟨p1, p2, vs, ws, rfl, rfl, fh _ _ q1, fh _ _ q2, by rw [s1.len, s2.len]; exact c, fun p hp => new_lst fh pn (s1.app s2) hp q⟩
  case lst.int.Mult a k =>
    obtain ⟨c, rfl⟩ := ofIf e
    obtain ⟨p1, vs, rfl, q1, s1⟩ := r1
    subst r2
    obtain ⟨c1, c2, c3⟩ := c
    exact op_rep pins s σ H _ _ v u Q I rx ry ⟨p1, k, vs, rfl, rfl, fh _ _ q1, by omega, by omega, by rw [s1.len]; exact c3, fun p hp => new_lst fh pn (s1.rep _) hp q⟩
theorem pd_bin {a b : Expr} {fa fb : List (Option D) → M D} {op : Operator} {pos : Pos} (ha : PD X g E a fa) (hb : PD X g E b fb) :
    PD X g E (.BinOp a op b pos) (fun ρ => bnd (fa ρ) fun x => bnd (fb ρ) fun y => ofO (binD op x y)) := by
  refine PE.weak (pe_op (op_bin (g := g) op) ha hb) fun σ H Q h => ?_
  obtain ⟨F, ρ, S, st, p⟩ := h
  refine ⟨F, ρ, S, st, (p.bind (RepD X.K g)).imp ?_⟩
  rintro x H1 ⟨dx, F1, S1, f1, r1, p⟩
  refine ⟨F1, ρ, S1, st.fwd f1, (p.bind (RepD X.K g)).imp ?_⟩
  rintro y H2 ⟨dy, F2, S2, f2, r2, p⟩
  obtain ⟨d, e, q⟩ := p.ofO
  exact ⟨F2, S2, dx, dy, d, f2.fh, f2.pn, f2.to r1, r2, e, fun v F' H' f r => q F' H' v f r⟩
theorem pd_neg {a : Expr} {fa : List (Option D) → M D} {pos : Pos} (ha : PD X g E a fa) :
    PD X g E (.UnaryOp .USub a pos) (fun ρ => bnd (fa ρ) fun x => ofO (negD x)) := by
  refine PE.weak (pe_un un_neg ha) fun σ H Q h => ?_
  obtain ⟨F, ρ, S, st, p⟩ := h
  refine ⟨F, ρ, S, st, (p.bind (RepD X.K g)).imp ?_⟩
  rintro x H1 ⟨dx, F1, S1, f1, r1, p⟩
  obtain ⟨d, e, q⟩ := p.ofO
  cases dx <;> (try (cases e; done))
  rename_i i
  cases e
  have r1 : Rep X.K g F1 (.int i) x := r1
  simp only [Rep] at r1
  exact ⟨i, r1, q F1 H1 _ (Fwd.refl f1.fh f1.pn) rep_int⟩

/-! ### truth -/
theorem isEmpty_reps {K : PySem.W.Frag} {F : Hp} {xs : List D} {vs : List V} (r : Reps K g F xs vs) : vs.isEmpty = xs.isEmpty := by
  have := r.len
  cases xs <;> cases vs <;> simp_all
theorem tru_of {K : PySem.W.Frag} {F H : Hp} {d : D} {v : V} {b : Bool} (fh : Same F H) (r : Rep K g F d v) (h : truD d = some b) : TruV K v H b := by
  cases d <;> simp only [truD] at h <;> (try (cases h; done)) <;> cases h <;> simp only [Rep] at r
  · subst r; rfl
  · subst r; rfl
  · subst r; rfl
  · obtain ⟨a, vs, rfl, q, s⟩ := r
    exact .inr (.inl ⟨vs, TupAt.sq fh q, by rw [isEmpty_reps s]⟩)
  · obtain ⟨a, vs, rfl, q, s⟩ := r
    exact .inl ⟨vs, SqL.of (fh _ _ q), by rw [isEmpty_reps s]⟩
theorem pd_not {a : Expr} {fa : List (Option D) → M D} {pos : Pos} (ha : PD X g E a fa) :
    PD X g E (.UnaryOp .Not a pos) (fun ρ => bnd (fa ρ) fun x => bnd (ofO (truD x)) fun b => ret (.bl (!b))) := by
  refine PE.weak (pe_notT ha) fun σ H Q h => ?_
  obtain ⟨F, ρ, S, st, p⟩ := h
  refine ⟨F, ρ, S, st, (p.bind (RepD X.K g)).imp ?_⟩
  rintro x H1 ⟨dx, F1, S1, f1, r1, p⟩
  obtain ⟨b, e, p⟩ := p.some
  exact ⟨b, tru_of f1.fh r1 e, p F1 H1 _ (Fwd.refl f1.fh f1.pn) rep_bl⟩
theorem pd_and {a b : Expr} {rest : List Expr} {fa fb : List (Option D) → M D} {pos : Pos} (ha : PD X g E a fa) (hb : PD X g E (.BoolOp .And (b :: rest) pos) fb) :
    PD X g E (.BoolOp .And (a :: b :: rest) pos) (fun ρ => bnd (fa ρ) fun x => bnd (ofO (truD x)) fun c => if c = true then fb ρ else ret x) := by
  refine PE.weak (pe_andT ha hb) fun σ H Q h => ?_
  obtain ⟨F, ρ, S, st, p⟩ := h
  refine ⟨F, ρ, S, st, (p.bind (RepD X.K g)).imp ?_⟩
  rintro x H1 ⟨dx, F1, S1, f1, r1, p⟩
  obtain ⟨b, e, p⟩ := p.some
  refine ⟨b, tru_of f1.fh r1 e, ?_⟩
  cases b with
  | true => exact ⟨F1, ρ, S1, st.fwd f1, p⟩
  | false => exact p F1 H1 _ (Fwd.refl f1.fh f1.pn) r1
theorem pd_or {a b : Expr} {rest : List Expr} {fa fb : List (Option D) → M D} {pos : Pos} (ha : PD X g E a fa) (hb : PD X g E (.BoolOp .Or (b :: rest) pos) fb) :
    PD X g E (.BoolOp .Or (a :: b :: rest) pos) (fun ρ => bnd (fa ρ) fun x => bnd (ofO (truD x)) fun c => if c = true then ret x else fb ρ) := by
  refine PE.weak (pe_orT ha hb) fun σ H Q h => ?_
  obtain ⟨F, ρ, S, st, p⟩ := h
  refine ⟨F, ρ, S, st, (p.bind (RepD X.K g)).imp ?_⟩
  rintro x H1 ⟨dx, F1, S1, f1, r1, p⟩
  obtain ⟨b, e, p⟩ := p.some
  refine ⟨b, tru_of f1.fh r1 e, ?_⟩
  cases b with
  | true => exact p F1 H1 _ (Fwd.refl f1.fh f1.pn) r1
  | false => exact ⟨F1, ρ, S1, st.fwd f1, p⟩

/-! ### comparisons -/
theorem isNon_of {K : PySem.W.Frag} {F : Hp} {d : D} {v : V} (r : Rep K g F d v) : decide (v = .non) = isNon d := by
  cases d <;> simp only [Rep] at r
  case non => subst r; rfl
  case tup => obtain ⟨a, vs, rfl, _⟩ := r; rfl
  case lst => obtain ⟨a, vs, rfl, _⟩ := r; rfl
  case ins => obtain ⟨a, dx, vs, rfl, _⟩ := r; rfl
  case exn => obtain ⟨e, _, rfl, _⟩ := r; rfl
  case dic => obtain ⟨a, rfl, _⟩ := r; rfl
  all_goals (subst r; rfl)
theorem pd_isN {a : Expr} {fa : List (Option D) → M D} {j : Nat} {p1 pos : Pos} (ha : PD X g E a fa) :
    PD X g E (.Compare a [.Is] [.Constant .none j p1] pos) (fun ρ => bnd (fa ρ) fun x => ret (.bl (isNon x))) := by
  refine PE.weak (pe_cmp (pc_isN ha)) fun σ H Q h => ?_
  obtain ⟨F, ρ, S, st, p⟩ := h
  refine ⟨F, ρ, S, st, (p.bind (RepD X.K g)).imp ?_⟩
  rintro x H1 ⟨dx, F1, S1, f1, r1, p⟩
  rw [isNon_of r1]
  exact p F1 H1 _ (Fwd.refl f1.fh f1.pn) rep_bl
theorem pd_notN {a : Expr} {fa : List (Option D) → M D} {j : Nat} {p1 pos : Pos} (ha : PD X g E a fa) :
    PD X g E (.Compare a [.IsNot] [.Constant .none j p1] pos) (fun ρ => bnd (fa ρ) fun x => ret (.bl (!isNon x))) := by
  refine PE.weak (pe_cmp (pc_notN ha)) fun σ H Q h => ?_
  obtain ⟨F, ρ, S, st, p⟩ := h
  refine ⟨F, ρ, S, st, (p.bind (RepD X.K g)).imp ?_⟩
  rintro x H1 ⟨dx, F1, S1, f1, r1, p⟩
  rw [isNon_of r1]
  exact p F1 H1 _ (Fwd.refl f1.fh f1.pn) rep_bl
def rCmpD (K : PySem.W.Frag) (g : G) (op : CmpOp) : R2 := fun x y H Q => ∃ F dx dy b, Same F H ∧ Rep K g F dx x ∧ Rep K g F dy y ∧ cmpD op dx dy = some b ∧ Q (.bl b) H
theorem eqD_of {a b : D} {c : Bool} (h : eqD a b = some c) : ∃ p q, D.py a = some p ∧ D.py b = some q ∧ SeqAt.shaped p = true ∧ SeqAt.shaped q = true ∧ PyData.eqv p q = c := by
  unfold eqD at h
  split at h
  · rename_i p q e1 e2
    obtain ⟨k, rfl⟩ := ofIf h
    exact ⟨p, q, e1, e2, k.1, k.2, rfl⟩
  · cases h
theorem op_cmpD (hu : X.A.units + 64 < cLine) (op : CmpOp) : OpR X (compareOp op) (rCmpD X.K g op) := by
  intro
      pins s σ H x y v u Q I rx ry h
  obtain ⟨F, dx, dy, b, fh, r1, r2, e, q⟩ := h
  cases op
  case Eq =>
    obtain ⟨p, p', e1, e2, s1, s2, rfl⟩ := eqD_of e
    exact op_eqD hu pins s σ H x y v u Q I rx ry ⟨p, p', dp_of fh _ _ _ r1 e1, dp_of fh _ _ _ r2 e2, s1, s2, q⟩
  case NotEq =>
    have e : (eqD dx dy).map (!·) = some b := e
    cases z : eqD dx dy with
    | none => rw [z] at e; cases e
    | some c =>
      rw [z] at e; cases e
      obtain ⟨p, p', e1, e2, s1, s2, rfl⟩ := eqD_of z
      exact op_neD hu pins s σ H x y v u Q I rx ry ⟨p, p', dp_of fh _ _ _ r1 e1, dp_of fh _ _ _ r2 e2, s1, s2, q⟩
  all_goals (cases dx <;> cases dy <;> simp only [cmpD] at e <;> (try (cases e; done)) <;> cases e <;> simp only [Rep] at r1 r2 <;> subst r1 r2)
  case Lt => exact op_lt pins s σ H _ _ v u Q I rx ry ⟨_, _, rfl, rfl, q⟩
  case LtE => exact op_le pins s σ H _ _ v u Q I rx ry ⟨_, _, rfl, rfl, q⟩
  case Gt => exact op_gt pins s σ H _ _ v u Q I rx ry ⟨_, _, rfl, rfl, q⟩
  case GtE => exact op_ge pins s σ H _ _ v u Q I rx ry ⟨_, _, rfl, rfl, q⟩
  case Is => exact op_is_bl pins s σ H _ _ v u Q I rx ry ⟨_, _, rfl, rfl, q⟩
  case IsNot => exact op_isnot_bl pins s σ H _ _ v u Q I rx ry ⟨_, _, rfl, rfl, q⟩
theorem pd_cmp {a b : Expr} {fa fb : List (Option D) → M D} {op : CmpOp} {pos : Pos} (hu : X.A.units + 64 < cLine) (ha : PD X g E a fa) (hb : PD X g E b fb) (h1 : op ≠ .In) (h2 : op ≠ .NotIn) :
    PD X g E (.Compare a [op] [b] pos) (fun ρ => bnd (fa ρ) fun x => bnd (fb ρ) fun y => bnd (ofO (cmpD op x y)) fun c => ret (.bl c)) := by
  refine PE.weak (pe_cmpR (op_cmpD (g := g) hu op) ha hb (nobehind b h1 h2)) fun σ H Q h => ?_
  obtain ⟨F, ρ, S, st, p⟩ := h
  refine ⟨F, ρ, S, st, (p.bind (RepD X.K g)).imp ?_⟩
  rintro x H1 ⟨dx, F1, S1, f1, r1, p⟩
  refine ⟨F1, ρ, S1, st.fwd f1, (p.bind (RepD X.K g)).imp ?_⟩
  rintro y H2 ⟨dy, F2, S2, f2, r2, p⟩
  obtain ⟨c, e, p⟩ := p.some
  exact ⟨F2, dx, dy, c, f2.fh, f2.to r1, r2, e, p F2 H2 _ (Fwd.refl f2.fh f2.pn) rep_bl⟩
theorem marks2 {op op' : CmpOp} {b c : Expr} (h1 : op ≠ .In) (h2 : op ≠ .NotIn) (h3 : op' ≠ .In) (h4 : op' ≠ .NotIn) : lastMarks [op, op'] [b, c] = false := by
  have := nobehind c h3 h4
  cases op <;> cases op' <;> first | exact absurd rfl h1 | exact absurd rfl h2 | exact absurd rfl h3 | exact absurd rfl h4 | exact this
theorem pd_chain {a b c : Expr} {fa fb fc : List (Option D) → M D} {op op' : CmpOp} {pos : Pos} (hu : X.A.units + 64 < cLine) (ha : PD X g E a fa) (hb : PD X g E b fb) (hc : PD X g E c fc) (h1 : op ≠ .In) (h2 : op ≠ .NotIn) (h3 : op' ≠ .In) (h4 : op' ≠ .NotIn) :
    PD X g E (.Compare a [op, op'] [b, c] pos) (fun ρ => bnd (fa ρ) fun x => bnd (fb ρ) fun y => bnd (ofO (cmpD op x y)) fun k =>
      if k = true then bnd (fc ρ) fun z => bnd (ofO (cmpD op' y z)) fun k' => ret (.bl k') else ret (.bl false)) := by
  refine PE.weak (pe_chain (op_cmpD (g := g) hu op) (op_cmpD (g := g) hu op') ha hb hc (marks2 h1 h2 h3 h4)) fun σ H Q h => ?_
  obtain ⟨F, ρ, S, st, p⟩ := h
  refine ⟨F, ρ, S, st, (p.bind (RepD X.K g)).imp ?_⟩
  rintro x H1 ⟨dx, F1, S1, f1, r1, p⟩
  refine ⟨F1, ρ, S1, st.fwd f1, (p.bind (RepD X.K g)).imp ?_⟩
  rintro y H2 ⟨dy, F2, S2, f2, r2, p⟩
  obtain ⟨k, e, p⟩ := p.some
  refine ⟨F2, dx, dy, k, f2.fh, f2.to r1, r2, e, k, rfl, ?_⟩
  cases k with
  | false => exact p F2 H2 _ (Fwd.refl f2.fh f2.pn) rep_bl
  | true =>
    refine ⟨F2, ρ, S2, (st.fwd f1).fwd f2, ((show Post X.K g E F2 H2 (bnd (fc ρ) _ S2) (RepD X.K g) Q from p).bind (RepD X.K g)).imp ?_⟩
    rintro z H3 ⟨dz, F3, S3, f3, r3, p⟩
    obtain ⟨k', e', p⟩ := p.some
    exact ⟨F3, dy, dz, k', f3.fh, f3.to r2, r3, e', p F3 H3 _ (Fwd.refl f3.fh f3.pn) rep_bl⟩
end
end Pur

/-! Pur5: tests, displays, calls, subscripts. -/
namespace Pur
open
    PySem PySem.Spec PyProof.Rows L2
section
variable {X : Cx} {g : G} {E : XK}
/-! ### tests -/
def fT (f : List (Option D) → M D) : List (Option D) → M Bool := fun ρ => bnd (f ρ) fun x => ofO (truD x)
abbrev PDT (X : Cx) (g : G) (E : XK) (e : Expr) (f : List (Option D) → M D) : Prop := PT X e (tDB X.K g E (fT f))
abbrev PWT (X : Cx) (g : G) (E : XK) (e : Expr) (f : List (Option D) → M D) : Prop := PW X e (tDB X.K g E (fT f))
theorem bnd_assoc {α β γ : Type} (m : M α) (k : α → M β) (l : β → M γ) : bnd (bnd m k) l = bnd m fun a => bnd (k a) l := by
  funext s
  simp only [bnd]
  cases m s <;> rfl
theorem bnd_ret {α β : Type} (a : α) (k : α → M β) : bnd (ret a) k = k a := rfl
theorem bnd_bl (o : Option Bool) : (bnd (bnd (ofO o) fun b => (ret (D.bl b) : M D)) fun x => ofO (truD x)) = ofO o := by
  cases o <;> rfl
theorem bnd_blN (o : Option Bool) : (bnd (bnd (ofO o) fun b => (ret (D.bl (!b)) : M D)) fun x => ofO (truD x)) = ofO (o.map (!·)) := by
  cases o <;> rfl
theorem pdt_plain {e : Expr} {f : List (Option D) → M D} (h : PD X g E e f) (he : ∀ whole, isTrue e X.env whole = (do let v ← whole; standAt e.pos; holding [v] (truthy v))) : PDT X g E e f := by
  refine PT.weak (pt_truth h he) fun σ H Q h => ?_
  obtain ⟨F, ρ, S, st, p⟩ := h
  refine ⟨F, ρ, S, st, (p.bind (RepD X.K g)).imp ?_⟩
  rintro x H1 ⟨dx, F1, S1, f1, r1, p⟩
  obtain ⟨b, e, q⟩ := p.ofO
  exact ⟨b, tru_of f1.fh r1 e, q F1 H1 _ (Fwd.refl f1.fh f1.pn) rfl⟩
theorem pdt_cmp {a b : Expr} {fa fb : List (Option D) → M D} {op : CmpOp} {pos : Pos} (hu : X.A.units + 64 < cLine) (ha : PD X g E a fa) (hb : PD X g E b fb) (h1 : op ≠ .In) (h2 : op ≠ .NotIn) :
    PDT X g E (.Compare a [op] [b] pos) (fun ρ => bnd (fa ρ) fun x => bnd (fb ρ) fun y => bnd (ofO (cmpD op x y)) fun c => ret (.bl c)) := by
  refine PT.weak (pt_cmpR (op_cmpD (g := g) hu op) ha hb (nobehind b h1 h2)) fun σ H Q h => ?_
  obtain ⟨F, ρ, S, st, p⟩ := h
  simp only [fT, bnd_assoc] at p
  refine ⟨F, ρ, S, st, (p.bind (RepD X.K g)).imp ?_⟩
  rintro x H1 ⟨dx, F1, S1, f1, r1, p⟩
  refine ⟨F1, ρ, S1, st.fwd f1, (p.bind (RepD X.K g)).imp ?_⟩
  rintro y H2 ⟨dy, F2, S2, f2, r2, p⟩
  obtain ⟨c, e, p⟩ := p.some
  exact ⟨F2, dx, dy, c, f2.fh, f2.to r1, r2, e, c, rfl, p F2 H2 _ (Fwd.refl f2.fh f2.pn) rfl⟩
theorem pdt_isN {a : Expr} {fa : List (Option D) → M D} {j : Nat} {p1 pos : Pos} (ha : PD X g E a fa) :
    PDT X g E (.Compare a [.Is] [.Constant .none j p1] pos) (fun ρ => bnd (fa ρ) fun x => ret (.bl (isNon x))) := by
  refine PT.weak (pt_cmp (pc_isN ha)) fun σ H Q h => ?_
  obtain ⟨F, ρ, S, st, p⟩ := h
  simp only [fT, bnd_assoc] at p
  refine ⟨F, ρ, S, st, (p.bind (RepD X.K g)).imp ?_⟩
  rintro x H1 ⟨dx, F1, S1, f1, r1, p⟩
  rw [isNon_of r1]
  exact ⟨_, rfl, p F1 H1 _ (Fwd.refl f1.fh f1.pn) rfl⟩
theorem pdt_notN {a : Expr} {fa : List (Option D) → M D} {j : Nat} {p1 pos : Pos} (ha : PD X g E a fa) :
    PDT X g E (.Compare a [.IsNot] [.Constant .none j p1] pos) (fun ρ => bnd (fa ρ) fun x => ret (.bl (!isNon x))) := by
  refine PT.weak (pt_cmp (pc_notN ha)) fun σ H Q h => ?_
  obtain ⟨F, ρ, S, st, p⟩ := h
  simp only [fT, bnd_assoc] at p
  refine ⟨F, ρ, S, st, (p.bind (RepD X.K g)).imp ?_⟩
  rintro x H1 ⟨dx, F1, S1, f1, r1, p⟩
  rw [isNon_of r1]
  exact ⟨_, rfl, p F1 H1 _ (Fwd.refl f1.fh f1.pn) rfl⟩
theorem bnd_ite {α β : Type} (c : Bool) (m m' : M α) (k : α → M β) : bnd (if c = true then m else m') k = if c = true then bnd m k else bnd m' k := by
  cases c <;> rfl
theorem pdt_chain {a b c : Expr} {fa fb fc : List (Option D) → M D} {op op' : CmpOp} {pos : Pos} (hu : X.A.units + 64 < cLine) (ha : PD X g E a fa) (hb : PD X g E b fb) (hc : PD X g E c fc) (h1 : op ≠ .In) (h2 : op ≠ .NotIn) (h3 : op' ≠ .In) (h4 : op' ≠ .NotIn) :
    PDT X g E (.Compare a [op, op'] [b, c] pos) (fun ρ => bnd (fa ρ) fun x => bnd (fb ρ) fun y => bnd (ofO (cmpD op x y)) fun k =>
      if k = true then bnd (fc ρ) fun z => bnd (ofO (cmpD op' y z)) fun k' => ret (.bl k') else ret (.bl false)) := by
  refine PT.weak (pt_chain (op_cmpD (g := g) hu op) (op_cmpD (g := g) hu op') ha hb hc (marks2 h1 h2 h3 h4)) fun σ H Q h => ?_
  obtain ⟨F, ρ, S, st, p⟩ := h
  simp only [fT, bnd_assoc, bnd_ite] at p
  refine ⟨F, ρ, S, st, (p.bind (RepD X.K g)).imp ?_⟩
  rintro x H1 ⟨dx, F1, S1, f1, r1, p⟩
  refine ⟨F1, ρ, S1, st.fwd f1, (p.bind (RepD X.K g)).imp ?_⟩
  rintro y H2 ⟨dy, F2, S2, f2, r2, p⟩
  obtain ⟨k, e, p⟩ := p.some
  refine ⟨F2, dx, dy, k, f2.fh, f2.to r1, r2, e, k, rfl, ?_⟩
  cases k with
  | false => exact ⟨_, rfl, p F2 H2 _ (Fwd.refl f2.fh f2.pn) rfl⟩
  | true =>
    refine ⟨F2, ρ, S2, (st.fwd f1).fwd f2, ((show Post X.K g E F2 H2 (bnd (fc ρ) _ S2) RepI Q from p).bind (RepD X.K g)).imp ?_⟩
    rintro z H3 ⟨dz, F3, S3, f3, r3, p⟩
    obtain ⟨k', e', p⟩ := p.some
    exact ⟨F3, dy, dz, k', f3.fh, f3.to r2, r3, e', _, rfl, p F3 H3 _ (Fwd.refl f3.fh f3.pn) rfl⟩
theorem pdt_not {a : Expr} {fa : List (Option D) → M D} {pos : Pos} (ha : PDT X g E a fa) :
    PDT X g E (.UnaryOp .Not a pos) (fun ρ => bnd (fa ρ) fun x => bnd (ofO (truD x)) fun b => ret (.bl (!b))) := by
  refine PT.weak (pt_not ha) fun σ H Q h => ?_
  obtain ⟨F, ρ, S, st, p⟩ := h
  have z : (fT (fun ρ => bnd (fa ρ) fun x => bnd (ofO (truD x)) fun b => ret (.bl (!b))) ρ) = bnd (fT fa ρ) fun b => ret (!b) := by
    simp only [fT, bnd_assoc]
    rfl
  rw [z] at p
  refine ⟨F, ρ, S, st, (p.bind RepI).imp ?_⟩
  rintro b H1 ⟨b', F1, S1, f1, r1, p⟩
  cases r1
  exact p F1 H1 _ (Fwd.refl f1.fh f1.pn) rfl
theorem pwt_one {a : Expr} {fa : List (Option D) → M D} {op : BoolOp} {pos : Pos} (ha : PDT X g E a fa) : PWT X g E (.BoolOp op [a] pos) fa := by
  cases op with
  | And => exact pw_and1 ha
  | Or => exact pw_or1 ha
theorem pwt_and {a b : Expr} {rest : List Expr} {fa fb : List (Option D) → M D} {pos : Pos} (ha : PDT X g E a fa) (hb : PWT X g E (.BoolOp .And (b :: rest) pos) fb) :
    PWT X g E (.BoolOp .And (a :: b :: rest) pos) (fun ρ => bnd (fa ρ) fun x => bnd (ofO (truD x)) fun c => if c = true then fb ρ else ret x) := by
  refine PW.weak (pw_and ha hb) fun σ H Q h => ?_
  obtain ⟨F, ρ, S, st, p⟩ := h
  have z : (fT (fun ρ => bnd (fa ρ) fun x => bnd (ofO (truD x)) fun c => if c = true then fb ρ else ret x) ρ) = bnd (fT fa ρ) fun c => if c = true then fT fb ρ else ret false := by
    funext s
    simp only [fT, bnd]
    cases fa ρ s with
    | ok x s' =>
      simp only
      cases e : truD x with
      | none => rfl
      | some c =>
        cases c with
        | true => rfl
        | false => simp [ofO, ret, e]
    | exc c fs s' => rfl
    | stuck => rfl
  rw [z] at p
  refine ⟨F, ρ, S, st, (p.bind RepI).imp ?_⟩
  rintro b H1 ⟨b', F1, S1, f1, r1, p⟩
  cases r1
  cases b with
  | true => exact ⟨F1, ρ, S1, st.fwd f1, p⟩
  | false => exact p F1 H1 _ (Fwd.refl f1.fh f1.pn) rfl
theorem pwt_or {a b : Expr} {rest : List Expr} {fa fb : List (Option D) → M D} {pos : Pos} (ha : PDT X g E a fa) (hb : PWT X g E (.BoolOp .Or (b :: rest) pos) fb) :
    PWT X g E (.BoolOp .Or (a :: b :: rest) pos) (fun ρ => bnd (fa ρ) fun x => bnd (ofO (truD x)) fun c => if c = true then ret x else fb ρ) := by
  refine PW.weak (pw_or ha hb) fun σ H Q h => ?_
  obtain ⟨F, ρ, S, st, p⟩ := h
  have z : (fT (fun ρ => bnd (fa ρ) fun x => bnd (ofO (truD x)) fun c => if c = true then ret x else fb ρ) ρ) = bnd (fT fa ρ) fun c => if c = true then ret true else fT fb ρ := by
    funext s
    simp only [fT, bnd]
    cases fa ρ s with
    | ok x s' =>
      simp only
      cases e : truD x with
      | none => rfl
      | some c =>
        cases c with
        | false => rfl
        | true => simp [ofO, ret, e]
    | exc c fs s' => rfl
    | stuck => rfl
  rw [z] at p
  refine ⟨F, ρ, S, st, (p.bind RepI).imp ?_⟩
  rintro b H1 ⟨b', F1, S1, f1, r1, p⟩
  cases r1
  cases b with
  | true => exact p F1 H1 _ (Fwd.refl f1.fh f1.pn) rfl
  | false => exact ⟨F1, ρ, S1, st.fwd f1, p⟩
theorem pt_ifExp {t a b : Expr} {tt ta tb : TT} {pos : Pos} (ht : PT X t tt) (ha : PT X a ta) (hb : PT X b tb) : PT X (.IfExp t a b pos) (fun σ H Q => tt σ H fun c H1 => if c = true then ta σ H1 Q else tb σ H1 Q) := by
  refine
      ⟨fun pins s σ H Q I h => ?_⟩
  show wpAny (model X.prog X.w) X.A (isTrue t X.env (eval t X.env) >>= fun c => if c = true then isTrue a X.env (eval a X.env) else isTrue b X.env (eval b X.env)) _ _ s
  refine wpAny_bind (thn (ht.run pins s σ H _ I h) fun c s1 ⟨H1, I1, q⟩ => ?_)
  cases c with
  | true => exact ha.run pins s1 σ H1 Q I1 q
  | false => exact hb.run pins s1 σ H1 Q I1 q
def fIf (ft fa fb : List (Option D) → M D) : List (Option D) → M D := fun ρ => bnd (ft ρ) fun x => bnd (ofO (truD x)) fun c => if c = true then fa ρ else fb ρ
theorem fIf_eq (ft fa fb : List (Option D) → M D) (ρ : List (Option D)) : fIf ft fa fb ρ = bnd (fT ft ρ) fun c => if c = true then fa ρ else fb ρ := by
  simp only [fIf, fT, bnd_assoc]
theorem pdt_ite {t a b : Expr} {ft fa fb : List (Option D) → M D} {pos : Pos} (ht : PDT X g E t ft) (ha : PDT X g E a fa) (hb : PDT X g E b fb) : PDT X g E (.IfExp t a b pos) (fIf ft fa fb) := by
  refine PT.weak (pt_ifExp ht ha hb) fun σ H Q h => ?_
  obtain ⟨F, ρ, S, st, p⟩ := h
  have z : fT (fIf ft fa fb) ρ = bnd (fT ft ρ) fun c => if c = true then fT fa ρ else fT fb ρ := by
    unfold fT
    simp only [fIf, bnd_assoc, bnd_ite]
  rw [z] at p
  refine ⟨F, ρ, S, st, (p.bind RepI).imp ?_⟩
  rintro b H1 ⟨b', F1, S1, f1, r1, p⟩
  cases r1
  cases b with
  | true => exact ⟨F1, ρ, S1, st.fwd f1, p⟩
  | false => exact ⟨F1, ρ, S1, st.fwd f1, p⟩
theorem pd_ite {t a b : Expr} {ft fa fb : List (Option D) → M D} {pos : Pos} (ht : PDT X g E t ft) (ha : PD X g E a fa) (hb : PD X g E b fb) : PD X g E (.IfExp t a b pos) (fIf ft fa fb) := by
  refine PE.weak (pe_ifExp ht ha hb) fun σ H Q h => ?_
  obtain ⟨F, ρ, S, st, p⟩ := h
  rw [fIf_eq] at p
  refine ⟨F, ρ, S, st, (p.bind RepI).imp ?_⟩
  rintro b H1 ⟨b', F1, S1, f1, r1, p⟩
  cases r1
  cases b with
  | true => exact ⟨F1, ρ, S1, st.fwd f1, p⟩
  | false => exact ⟨F1, ρ, S1, st.fwd f1, p⟩

/-! ### rows of expressions -/
def fNil : List (Option D) → M (List D) := fun _ => ret []
def fCons (f : List (Option D) → M D) (fs : List (Option D) → M (List D)) : List (Option D) → M (List D) := fun ρ => bnd (f ρ) fun d => bnd (fs ρ) fun ds => ret (d :: ds)
theorem pds_nil : PDs X g E [] fNil := by
  refine PA.weak pa_nil fun σ H Q h => ?_
  obtain ⟨F, ρ, S, st, p⟩ := h
  exact p F H [] st.refl Reps.nil
theorem pds_cons {e : Expr} {es : List Expr} {f : List (Option D) → M D} {fs : List (Option D) → M (List D)} (he : PD X g E e f) (hr : PDs X g E es fs) (hs : starEach (e :: es) X.env = (false, eval e X.env) :: starEach es X.env) :
    PDs X g E (e :: es) (fCons f fs) := by
  refine PA.weak (pa_cons he hr hs) fun σ H Q h => ?_
  obtain ⟨F, ρ, S, st, p⟩ := h
  refine ⟨F, ρ, S, st, (p.bind (RepD X.K g)).imp ?_⟩
  rintro x H1 ⟨dx, F1, S1, f1, r1, p⟩
  refine ⟨F1, ρ, S1, st.fwd f1, (p.bind (RepsD X.K g)).imp ?_⟩
  rintro xs H2 ⟨dxs, F2, S2, f2, r2, p⟩
  exact p F2 H2 _ (Fwd.refl f2.fh f2.pn) (Reps.cons (f2.to r1) r2)
theorem pd_tup {es : List Expr} {fs : List (Option D) → M (List D)} {k : Nat} {pos : Pos} (h : PDs X g E es fs) (hl : ∀ ρ S ds S', fs ρ S = .ok ds S' → ds.length ≤ 1000) : PD X g E (.Tuple es k pos) (fun ρ => bnd (fs ρ) fun ds => ret (.tup ds)) := by
  refine PE.weak (pe_tup h) fun σ H Q h => ?_
  obtain ⟨F, ρ, S, st, p⟩ := h
  refine ⟨F, ρ, S, st, ?_⟩
  have p' := p.bind (RepsD X.K g)
  cases z : fs ρ S with
  | stuck => rw [z] at p'; exact p'
  | exc c fs S' => rw [z] at p'; exact p'
  | ok ds S' =>
    rw [z] at p'
    intro F1 H1 vs f1 r1
    obtain ⟨ds', F2, S2, f2, r2, p2⟩ := p' F1 H1 vs f1 r1
    have hn : vs.length ≤ 1000 := by
      have := Reps.len (show Reps X.K g F1 ds vs from r1)
      have := hl ρ S ds S' z
      omega
    refine ⟨Nat.le_trans hn (by rw [sizeLine_eq]; decide), fun q hq => ?_⟩
    exact new_tup f2.fh f2.pn r2 hq fun v F' H' f r => p2 F' H' v f r
theorem pd_lst {es : List Expr} {fs : List (Option D) → M (List D)} {pos : Pos} (h : PDs X g E es fs) (hl : ∀ ρ S ds S', fs ρ S = .ok ds S' → ds.length ≤ 1000) : PD X g E (.List es pos) (fun ρ => bnd (fs ρ) fun ds => ret (.lst ds)) := by
  refine PE.weak (pe_lst h) fun σ H Q h => ?_
  obtain ⟨F, ρ, S, st, p⟩ := h
  refine ⟨F, ρ, S, st, ?_⟩
  have p' := p.bind (RepsD X.K g)
  cases z : fs ρ S with
  | stuck => rw [z] at p'; exact p'
  | exc c fs S' => rw [z] at p'; exact p'
  | ok ds S' =>
    rw [z] at p'
    intro F1 H1 vs f1 r1
    obtain ⟨ds', F2, S2, f2, r2, p2⟩ := p' F1 H1 vs f1 r1
    have hn : vs.length ≤ 1000 := by
      have := Reps.len (show Reps X.K g F1 ds vs from r1)
      have := hl ρ S ds S' z
      omega
    refine ⟨Nat.le_trans hn (by rw [sizeLine_eq]; decide), fun q hq => ?_⟩
    exact new_lst f2.fh f2.pn r2 hq fun v F' H' f r => p2 F' H' v f r
end
end Pur

/-! Pur6: calls, built-ins, subscripts, slices. -/
namespace Pur
open
    PySem PySem.Spec PyProof.Rows L2
section
variable {X : Cx} {g : G} {E : XK}
theorem pd_call {T : Tx} {cs : CS} {k : Nat} {x : Str} {fn : Fn} {e : Expr} {es : List Expr} {fs : List (Option D) → M (List D)} {p pos : Pos} (w : Wf T g cs k X.prog X.w X.K X.mg X.base) (hf : T.fn x = some fn) (hr : Room k X.A)
    (tk : Takes X (fun cls d _ H => E cls d H)) (hg : Gl X x) (o : OkName x) (ha : PDs X g E (e :: es) fs) (hl : ∀ ρ S ds S', fs ρ S = .ok ds S' → ds.length = fn.ps.length)
    (he
        : starEach (e :: es) X.env = (false, eval e X.env) :: starEach es X.env) (hpl : (backTo pos (starEach es X.env)).any (·.1) = false) :
    PD X g E (.Call (.Name x p) (e :: es) [] pos) (fun ρ => bnd (fs ρ) fun ds => cs x ds) := by
  obtain ⟨hm, hk, fd, hb, _, ok⟩ := w.fn x fn hf
  refine PE.weak (pe_call (CX := L2.CX X.prog X.w) (E := E) (ds := []) (dvs := []) ok hr hg hm hk hb .nil (passes_call tk fun _ _ _ _ h => h) ha o.d he hpl) fun σ H Q h => ?_
  obtain ⟨F, ρ, S, st, p⟩ := h
  refine ⟨F, ρ, S, st, ?_⟩
  have p' := p.bind (RepsD X.K g)
  cases z : fs ρ S with
  | stuck => rw [z] at p'; exact p'
  | exc c fs S' => rw [z] at p'; exact p'
  | ok ds S' =>
    rw [z] at p'
    intro F1 H1 vs f1 r1
    obtain ⟨ds', F2, S2, f2, r2, p2⟩ := p' F1 H1 vs f1 r1
    rw [List.append_nil]
    refine ⟨F2, ds', S2, f2.fh, f2.pn, r2, ?_, p2⟩
    have h1 := Reps.len (show Reps X.K g F1 ds vs from r1)
    have h2 := Reps.len (show Reps X.K g F2 ds' vs from r2)
    have h3 := hl ρ S ds S' z
    omega

/-! ### built-ins -/
def rBi (K : PySem.W.Frag) (g : G) (f : Bi) : List V → Hp → VK → Prop := fun vs H Q => ∃ F S ds d, Same F H ∧ PenOk g F H S ∧ Reps K g F ds vs ∧ biD f ds = some d ∧ ∀ v F' H', Fwd g F H F' H' S → Rep K g F' d v → Q v H'
theorem reps1 {K : PySem.W.Frag} {F : Hp} {d : D} {vs : List V} (r : Reps K g F [d] vs) : ∃ v, vs = [v] ∧ Rep K g F d v := by
  simp only [Reps] at r
  obtain ⟨v, t, rfl, q, rfl⟩ := r
  exact ⟨v, rfl, q⟩
theorem reps2 {K : PySem.W.Frag} {F : Hp} {d e : D} {vs : List V} (r : Reps K g F [d, e] vs) : ∃ v w, vs = [v, w] ∧ Rep K g F d v ∧ Rep K g F e w := by
  simp only [Reps] at r
  obtain ⟨v, t, rfl, q, w, t2, rfl, q2, rfl⟩ := r
  exact ⟨v, w, rfl, q, q2⟩
/-- the shape of a single argument -/
theorem one_of {α : Type} {ds : List D} {o : D → Option α} {a : α} (h : (match ds with
    | [x] => o x
    | _ => none) = some a) : ∃ x, ds = [x] ∧ o x = some a := by
  match ds, h with
  | [x], h => exact ⟨x, rfl, h⟩
theorem reps_bls {K : PySem.W.Frag} {F : Hp} : ∀ {xs : List D} {vs : List V} {l : List Bool}, Reps K g F xs vs → blsOf xs = some l → vs = l.map V.bl
  | [], vs, l, r, h => by simp only [Reps] at r; simp only [blsOf] at h; cases h; rw [r]; rfl
  | d :: ds, vs, l, r, h => by
    simp only [Reps] at r
    obtain ⟨v, t, rfl, q, s⟩ := r
    cases d <;> simp only [blsOf] at h <;> (try (cases h; done))
    rename_i b
    cases z : blsOf ds with
    | none => rw [z] at h; cases h
    | some l' =>
      rw [z] at h; cases h
      simp only [Rep] at q
      rw [q, reps_bls s z]; rfl
theorem reps_ints {K : PySem.W.Frag} {F : Hp} : ∀ {xs : List D} {vs : List V} {l : List Int}, Reps K g F xs vs → intsOf xs = some l → vs = l.map V.int
  | [], vs, l, r, h => by simp only [Reps] at r; simp only [intsOf] at h; cases h; rw [r]; rfl
  | d :: ds, vs, l, r, h => by
    simp only [Reps] at r
    obtain ⟨v, t, rfl, q, s⟩ := r
    cases d <;> simp only [intsOf] at h <;> (try (cases h; done))
    rename_i b
    cases z : intsOf ds with
    | none => rw [z] at h; cases h
    | some l' =>
      rw [z] at h; cases h
      simp only [Rep] at q
      rw [q, reps_ints s z]; rfl
theorem intsOf_map : ∀ {xs : List D} {l : List Int}, intsOf xs = some l → l.map D.int = xs
  | [], l, h => by simp only [intsOf] at h; cases h; rfl
  | d :: r, l, h => by
    cases d <;> simp only [intsOf] at h <;> (try (cases h; done))
    cases z : intsOf r with
    | none => rw [z] at h; cases h
    | some l' => rw [z] at h; cases h; rw [List.map_cons, intsOf_map z]
theorem Reps.ints {K : PySem.W.Frag} {F : Hp} : ∀ {l : List Int}, Reps K g F (l.map D.int) (l.map V.int)
  | [] => Reps.nil
  | i :: l => Reps.cons rep_int Reps.ints
theorem tyX_of {K : PySem.W.Frag} {F H : Hp} {d : D} {v : V} {t : String} (fh : Same F H) (r : Rep K g F d v) (h : tyName d = some t) : TyX K H v (.type t) := by
  cases d <;> simp only [tyName] at h <;> (try (cases h; done)) <;> cases h <;> simp only [Rep] at r
  · subst r; exact .base .non
  · subst r; exact .base (.bl _)
  · subst r; exact .base (.int _)
  · subst r; exact .base (.str _)
  · obtain ⟨a, vs, rfl, q, s⟩ := r
    exact .base (.tup (fh _ _ q))
  · obtain ⟨a, vs, rfl, q, s⟩ := r
    exact .base (.lst (fh _ _ q))
  · obtain ⟨a, rfl, q⟩ := r
    exact .base (.dT (fh _ _ q))
theorem kit_of {t n : String} (ht : t ∈ ["NoneType", "bool", "int", "str", "tuple", "list", "dict"]) (hn : tyNames.any (fun p => p.2 == n) = true) : kitB t n = some (t == n || (t == "bool" && n == "int")) := by
  have hn' : n ∈ ["int", "bool", "str", "list", "tuple", "dict"] := by
    simp [tyNames] at hn
    rcases hn with e | e | e | e | e | e <;> simp [← e]
  revert ht hn'
  revert t n
  have key : ∀ t ∈ ["NoneType", "bool", "int", "str", "tuple", "list", "dict"], ∀ n ∈ ["int", "bool", "str", "list", "tuple", "dict"], kitB t n = some (t == n || (t == "bool" && n == "int")) := by decide +kernel
  intro t n _ ht hn
  exact key t ht n hn
theorem tyName_mem {d : D} {t : String} (h : tyName d = some t) : t ∈ ["NoneType", "bool", "int", "str", "tuple", "list", "dict"] := by
  cases d <;> simp only [tyName] at h <;> (try (cases h; done)) <;> cases h <;> decide
theorem isTy_of {K : PySem.W.Frag} {F H : Hp} {d : D} {v : V} {n : String} {b : Bool} (fh : Same F H) (r : Rep K g F d v) (h : isTy d n = some b) : ∃ t, TyX K H v t ∧ PySem.W.kitOne K t (.type n) = some b := by
  unfold isTy at h
  cases z : tyName d with
  | none => rw [z] at h; cases h
  | some t =>
    rw [z] at h
    obtain ⟨c, rfl⟩ := ofIf (show (if _ then some _ else none) = some b from h)
    exact ⟨.type t, tyX_of fh r z, kit_ty (kit_of (tyName_mem z) c)⟩
theorem isTy_kit {K : PySem.W.Frag} {d : D} {t n : String} {b : Bool} (z : tyName d = some t) (h : isTy d n = some b) : PySem.W.kitOne K (.type t) (.type n) = some b := by
  unfold isTy at h
  rw [z] at h
  obtain ⟨c, rfl⟩ := ofIf (show (if _ then some _ else none) = some b from h)
  exact kit_ty (kit_of (tyName_mem z) c)
theorem isTys_of {K : PySem.W.Frag} {F : Hp} {d : D} {t0 : String} (hz : tyName d = some t0) : ∀ {cs : List D} {vs : List V} {b : Bool}, Reps K g F cs vs → isTys d cs = some b →
    ∃ us, Paired ClsV vs us ∧ PySem.W.kitAny K (.type t0) us = some b
  | [], vs, b, rs, h => by
    simp only [Reps] at rs
    simp only [isTys] at h
    cases h
    subst rs
    exact ⟨[], .nil, rfl⟩
  | c :: cs, vs, b, rs, h => by
    simp only [Reps] at rs
    obtain ⟨w, t, rfl, q, s⟩ := rs
    cases c <;> simp only [isTys] at h <;> (try (cases h; done))
    rename_i nm
    simp only [Rep] at q
    subst q
    cases z : isTy d nm with
    | none => rw [z] at h; cases h
    | some b1 =>
      rw [z] at h
      cases z2 : isTys d cs with
      | none => rw [z2] at h; cases h
      | some b2 =>
        rw [z2] at h; cases h
        obtain ⟨us, hp, hk⟩ := isTys_of hz s z2
        refine ⟨.type nm :: us, .cons (.ty nm) hp, kitAny_cons (isTy_kit hz z) (fun e => ?_) (fun e => by rw [e]; rfl)⟩
        subst e
        simpa using hk
theorem reps1' {K : PySem.W.Frag} {F : Hp} {d : D} {vs : List V} (r : Reps K g F [d] vs) : ∃ v, vs = [v] ∧ Rep K g F d v := reps1 r
theorem arg1_of {f : D → Option D} {ds : List D} {d : D} (h : arg1 f ds = some d) : ∃ x, ds = [x] ∧ f x = some d := by
  match ds, h with
  | [x], h => exact ⟨x, rfl, h⟩
/-- a built-in of one argument, by its values -/
theorem cr1 {c : Value} {b : Bi} {f : D → Option D} (hb : ∀ ds, biD b ds = arg1 f ds)
    (h : ∀ (pins : List (Addr × Obj)) (s : Shared) (σ : L2.St) (H : Hp) (v : V) (us : List Value) (Q : VK) (F : Hp) (S : Pn) (x d : D), L2.Inv X pins σ H s → Vals [v] us → Same F H → PenOk g F H S → Rep X.K g F x v → f x = some d →
      (∀ v F' H', Fwd g F H F' H' S → Rep X.K g F' d v → Q v H') → wpAny (model X.prog X.w) X.A (call c us) (EP X pins σ Q) X.xe s) : CallR X c (rBi X.K g b) := by
  intro pins s σ H vs us Q I rv ⟨F, S, ds, d, fh, pn, r, e, q⟩
  rw [hb] at e
  obtain ⟨x, rfl, e⟩ := arg1_of e
  obtain ⟨v, rfl, r1⟩ := reps1 r
  exact h pins s σ H v us Q F S x d I rv fh pn r1 e q
theorem bi_len : CallR X (.builtin "len") (rBi X.K g .len) := by
  refine cr1 (f := biLen) (fun _ => rfl) fun pins s σ H v us Q F S x d I rv fh pn r e q => ?_
  cases x <;> simp only [biLen] at e <;> (try (cases e; done)) <;> simp only [Rep] at r
  case str z =>
    obtain ⟨c, rfl⟩ := ofIf e
    subst r
    exact call_len_str pins s σ H _ us Q I rv ⟨z, rfl, c, q _ F H (Fwd.refl fh pn) rep_int⟩
  case tup xs =>
    cases e
    obtain ⟨a, ws, rfl, hq, rs⟩ := r
    exact call_len_seq pins s σ H _ us Q I rv ⟨a, ws, rfl, .inr (TupAt.sq fh hq), by rw [rs.len]; exact q _ F H (Fwd.refl fh pn) rep_int⟩
  case lst xs =>
    cases e
    obtain ⟨a, ws, rfl, hq, rs⟩ := r
    exact call_len_seq pins s σ H _ us Q I rv ⟨a, ws, rfl, .inl (SqL.of (fh _ _ hq)), by rw [rs.len]; exact q _ F H (Fwd.refl fh pn) rep_int⟩
theorem isi_of {ds : List D} {d : D} (h : biIsi ds = some d) : ∃ x c, ds = [x, c] ∧ ((∃ n, c = .ty n ∧ (isTy x n).map D.bl = some d) ∨ (∃ cs t, c = .tup cs ∧ tyName x = some t ∧ (isTys x cs).map D.bl = some d) ∨ ∃ C isx fv b, c = .cls C ∧ x = .exn isx fv ∧ isx.lookup C = some b ∧ d = .bl b) := by
  match ds, h with
  | [x, c], h =>
    refine ⟨x, c, rfl, ?_⟩
    cases c <;> simp only [biIsi] at h <;> (try (cases h; done))
    · rename_i cs
      cases z : tyName x with
      | none => rw [z] at h; cases h
      | some t => rw [z] at h; exact .inr (.inl ⟨cs, t, rfl, rfl, h⟩)
    · rename_i C
      cases x <;> simp only at h <;> (try (cases h; done))
      rename_i isx fv
      cases z : isx.lookup C with
      | none => rw [z] at h; cases h
      | some b => rw [z] at h; cases h; exact .inr (.inr ⟨C, isx, fv, b, rfl, rfl, z, rfl⟩)
    · rename_i n
      exact .inl ⟨n, rfl, h⟩
theorem map_bl {o : Option Bool} {d : D} (h : o.map D.bl = some d) : ∃ b, o = some b ∧ d = .bl b := by
  cases o with
  | none => cases h
  | some b => cases h; exact ⟨b, rfl, rfl⟩
/-- the held error, in the heap -/
theorem en_inst {pins : List (Addr × Obj)} {σ : L2.St} {F H : Hp} {s : Shared} {S : Pn} {e : En} (I : L2.Inv X pins σ H s) (fh : Same F H) (pn : PenOk g F H S) (he : g.en = some e) (ok : EnOk X.K e) :
    ∃ (mA : Str → Option Value) (od : Obj), PySem.W.InstAt s.heap e.a e.oe (He.ga X.K e.c) (some od) ∧ (∀ f, RelO (e.fr.lookup f) (mA f)) ∧ (∀ f, PySem.W.lookIn f od = some (mA f)) := by
  obtain ⟨h1, h2⟩ := pn.xn e he
  have o1 : ObjOk X.prog X.w H s.heap e.a (exF e.a e.oe) := I.hok _ _ (fh _ _ h1)
  have o2 : ObjOk X.prog X.w H s.heap e.dx (.xd e.fr) := I.hok _ _ (fh _ _ h2)
  obtain ⟨mA, hns, rel⟩ := o2
  obtain ⟨od, hod, look⟩ := lookIn_ns hns
  have hget : s.heap.get? e.a = some e.oe := o1.1
  obtain ⟨vs, hv⟩ := ok.f
  refine ⟨mA, od, ⟨hget, ok.z.1, by unfold PySem.W.notCls; rw [hv] <;> rfl, by rw [ok.z.2]; exact hod⟩, rel, look⟩
theorem bi_isi (hen : ∀ e, g.en = some e → EnOk X.K e) : CallR X (.builtin "isinstance") (rBi X.K g .isi) := by
  intro pins s σ H vs us Q I rv ⟨F, S, ds, d, fh, pn, r, e, q⟩
  obtain ⟨x, c, rfl, h⟩ := isi_of e
  obtain ⟨v, w, rfl, r1, r2⟩ := reps2 r
  rcases h with ⟨n, rfl, h⟩ | ⟨cs, t0, rfl, zt, h⟩ | ⟨C, isx, fv, b, rfl, rfl, hl, rfl⟩
  rotate_left 2
  · simp only [Rep] at r1 r2
    obtain ⟨en, he, rfl, rfl, rfl⟩ := r1
    subst r2
    obtain ⟨u1, u2, rfl, ra, rc⟩ := vals2 rv
    obtain rfl : u1 = Value.ref en.a := ra
    obtain rfl : u2 = Value.ref (He.ga X.K C) := rc
    have ok := hen en he
    obtain ⟨mA, od, J, _, _⟩ := en_inst I fh pn he ok
    have EC := ok.c
    exact PySem.W.kia_one (PySem.W.kitx_exc (by obtain ⟨cd, hc, _⟩ := PySem.W.any_some EC.hd; rw [hc]; rfl) EC.hg EC.hk EC.hs EC.ha EC.hn EC.ht EC.hm) I.kIn J (ok.is C b hl) (fun z => nomatch z) fun tk => ⟨.bl b, H, I.kept (t' := tk) fun _ _ z => z, rfl, q _ F H (Fwd.refl fh pn) rep_bl⟩
  · obtain ⟨b, z, rfl⟩ := map_bl h
    simp only [Rep] at r2
    subst r2
    obtain ⟨t, hx, hk⟩ := isTy_of fh r1 z
    exact call_isi pins s σ H _ us Q I rv ⟨v, .ty n, t, .type n, b, rfl, .ty n, hx, hk, q _ F H (Fwd.refl fh pn) rep_bl⟩
  · obtain ⟨b, z, rfl⟩ := map_bl h
    simp only [Rep] at r2
    obtain ⟨a, ws, rfl, hq, rs⟩ := r2
    obtain ⟨us', hp, hk⟩ := isTys_of (K := X.K) zt rs z
    have hx := tyX_of fh r1 zt
    exact call_isiT pins s σ H _ us Q I rv ⟨v, a, ws, .type t0, us', b, rfl, fh _ _ hq, hp, hx, hk, q _ F H (Fwd.refl fh pn) rep_bl⟩
theorem onBls_of {f : List Bool → Bool} {x d : D} (h : onBls f x = some d) : ∃ xs l, x = .lst xs ∧ blsOf xs = some l ∧ d = .bl (f l) := by
  cases x <;> simp only [onBls] at h <;> (try (cases h; done))
  rename_i xs
  cases z : blsOf xs with
  | none => rw [z] at h; cases h
  | some l => rw [z] at h; cases h; exact ⟨xs, l, rfl, z, rfl⟩
theorem onInts_of {f : List Int → Option Int} {x d : D} (h : onInts f x = some d) : ∃ xs l i, x = .lst xs ∧ intsOf xs = some l ∧ f l = some i ∧ d = .int i := by
  cases x <;> simp only [onInts] at h <;> (try (cases h; done))
  rename_i xs
  cases z : intsOf xs with
  | none => rw [z] at h; cases h
  | some l =>
    rw [z] at h
    cases z2 : f l with
    | none => simp [z2] at h
    | some i => simp [z2] at h; exact ⟨xs, l, i, rfl, z, z2, h.symm⟩
theorem bi_all (hc : X.calm = true) : CallR X (.builtin "all") (rBi X.K g .all) := by
  refine cr1 (f := onBls fun l => l.all id) (fun _ => rfl) fun pins s σ H v us Q F S x d I rv fh pn r e q => ?_
  obtain ⟨xs, l, rfl, z, rfl⟩ := onBls_of e
  simp only [Rep] at r
  obtain ⟨a, ws, rfl, hq, rs⟩ := r
  have := reps_bls rs z
  subst this
  exact cr_all hc pins s σ H _ us Q I rv ⟨a, l, rfl, SqL.of (fh _ _ hq), q _ F H (Fwd.refl fh pn) rep_bl⟩
theorem bi_any (hc : X.calm = true) : CallR X (.builtin "any") (rBi X.K g .any) := by
  refine cr1 (f := onBls fun l => l.any id) (fun _ => rfl) fun pins s σ H v us Q F S x d I rv fh pn r e q => ?_
  obtain ⟨xs, l, rfl, z, rfl⟩ := onBls_of e
  simp only [Rep] at r
  obtain ⟨a, ws, rfl, hq, rs⟩ := r
  have := reps_bls rs z
  subst this
  exact cr_any hc pins s σ H _ us Q I rv ⟨a, l, rfl, SqL.of (fh _ _ hq), q _ F H (Fwd.refl fh pn) rep_bl⟩
theorem bi_sum (hc : X.calm = true) : CallR X (.builtin "sum") (rBi X.K g .sum) := by
  refine cr1 (f := biSum) (fun _ => rfl) fun pins s σ H v us Q F S x d I rv fh pn r e q => ?_
  cases x <;> simp only [biSum] at e <;> (try (cases e; done)) <;> rename_i xs <;> cases z : intsOf xs <;> rw [z] at e <;> cases e <;> simp only [Rep] at r <;> obtain ⟨a, ws, rfl, hq, rs⟩ := r <;> have e2 := reps_ints rs z <;> subst e2
  · exact cr_sumT hc pins s σ H _ us Q I rv ⟨a, _, rfl, TupAt.sq fh hq, q _ F H (Fwd.refl fh pn) rep_int⟩
  · exact cr_sum hc pins s σ H _ us Q I rv ⟨a, _, rfl, SqL.of (fh _ _ hq), q _ F H (Fwd.refl fh pn) rep_int⟩
theorem foldl_min : ∀ (r : List Int) (i : Int), (∀ y ∈ i :: r, r.foldl min i ≤ y) ∧ r.foldl min i ∈ i :: r
  | [], i => by simp
  | j :: r, i => by
    obtain ⟨h1, h2⟩ := foldl_min r (min i j)
    refine ⟨fun y hy => ?_, ?_⟩
    · have hm := h1 (min i j) (by simp)
      simp only [List.foldl_cons]
      rcases
          List.mem_cons.mp hy with rfl | hy
      · exact Int.le_trans hm (Int.min_le_left _ _)
      · rcases
            List.mem_cons.mp hy with rfl | hy
        · exact Int.le_trans hm (Int.min_le_right _ _)
        · exact h1 y (by simp [hy])
    · simp only [List.foldl_cons]
      rcases List.mem_cons.mp h2 with e | h2
      · rw [e]
        rcases Int.le_total i j with h | h
        · rw [Int.min_eq_left h]; simp
        · rw [Int.min_eq_right h]; simp
      · simp [h2]
theorem foldl_max : ∀ (r : List Int) (i : Int), (∀ y ∈ i :: r, y ≤ r.foldl max i) ∧ r.foldl max i ∈ i :: r
  | [], i => by simp
  | j :: r, i => by
    obtain ⟨h1, h2⟩ := foldl_max r (max i j)
    refine ⟨fun y hy => ?_, ?_⟩
    · have hm := h1 (max i j) (by simp)
      simp only [List.foldl_cons]
      rcases
          List.mem_cons.mp hy with rfl | hy
      · exact Int.le_trans (Int.le_max_left _ _) hm
      · rcases
            List.mem_cons.mp hy with rfl | hy
        · exact Int.le_trans (Int.le_max_right _ _) hm
        · exact h1 y (by simp [hy])
    · simp only [List.foldl_cons]
      rcases List.mem_cons.mp h2 with e | h2
      · rw [e]
        rcases Int.le_total i j with h | h
        · rw [Int.max_eq_right h]; simp
        · rw [Int.max_eq_left h]; simp
      · simp [h2]
theorem min_of {ds : List D} {d : D} (h : biMin ds = some d) : (∃ x, ds = [x] ∧ onInts minI x = some d) ∨ ∃ i j, ds = [.int i, .int j] ∧ d = .int (if j < i then j else i) := by
  match ds, h with
  | [x], h => exact .inl ⟨x, rfl, h⟩
  | [.int i, .int j], h => cases h; exact .inr ⟨i, j, rfl, rfl⟩
theorem max_of {ds : List D} {d : D} (h : biMax ds = some d) : (∃ x, ds = [x] ∧ onInts maxI x = some d) ∨ ∃ i j, ds = [.int i, .int j] ∧ d = .int (if j > i then j else i) := by
  match ds, h with
  | [x], h => exact .inl ⟨x, rfl, h⟩
  | [.int i, .int j], h => cases h; exact .inr ⟨i, j, rfl, rfl⟩
theorem bi_min (hc : X.calm = true) : CallR X (.builtin "min") (rBi X.K g .min) := by
  intro pins s σ H vs us Q I rv ⟨F, S, ds, d, fh, pn, r, e, q⟩
  rcases min_of e with ⟨x, rfl, e⟩ | ⟨i, j, rfl, rfl⟩
  · obtain ⟨v, rfl, r1⟩ := reps1 r
    obtain ⟨xs, l, i, rfl, z, z2, rfl⟩ := onInts_of e
    simp only [Rep] at r1
    obtain ⟨a, ws, rfl, hq, rs⟩ := r1
    have := reps_ints rs z
    subst this
    cases l with
    | nil => cases z2
    | cons i0 l0 =>
      cases z2
      have hm := foldl_min l0 i0
      refine cr_min hc pins s σ H _ us Q I rv ⟨a, i0 :: l0, rfl, SqL.of (fh _ _ hq), by simp, fun m m1 m2 => ?_⟩
      have : m = l0.foldl min i0 := Int.le_antisymm (m2 _ hm.2) (hm.1 _ m1)
      rw [this]
      exact q _ F H (Fwd.refl fh pn) rep_int
  · obtain ⟨v, w, rfl, r1, r2⟩ := reps2 r
    simp only [Rep] at r1 r2
    subst r1 r2
    exact call_min2 hc pins s σ H _ us Q I rv ⟨i, j, rfl, q _ F H (Fwd.refl fh pn) rep_int⟩
theorem bi_max (hc : X.calm = true) : CallR X (.builtin "max") (rBi X.K g .max) := by
  intro pins s σ H vs us Q I rv ⟨F, S, ds, d, fh, pn, r, e, q⟩
  rcases max_of e with ⟨x, rfl, e⟩ | ⟨i, j, rfl, rfl⟩
  · obtain ⟨v, rfl, r1⟩ := reps1 r
    obtain ⟨xs, l, i, rfl, z, z2, rfl⟩ := onInts_of e
    simp only [Rep] at r1
    obtain ⟨a, ws, rfl, hq, rs⟩ := r1
    have := reps_ints rs z
    subst this
    cases l with
    | nil => cases z2
    | cons i0 l0 =>
      cases z2
      have hm := foldl_max l0 i0
      refine cr_max hc pins s σ H _ us Q I rv ⟨a, i0 :: l0, rfl, SqL.of (fh _ _ hq), by simp, fun m m1 m2 => ?_⟩
      have : m = l0.foldl max i0 := Int.le_antisymm (hm.1 _ m1) (m2 _ hm.2)
      rw [this]
      exact q _ F H (Fwd.refl fh pn) rep_int
  · obtain ⟨v, w, rfl, r1, r2⟩ := reps2 r
    simp only [Rep] at r1 r2
    subst r1 r2
    exact call_max2 hc pins s σ H _ us Q I rv ⟨i, j, rfl, q _ F H (Fwd.refl fh pn) rep_int⟩
theorem bi_abs : CallR X (.builtin "abs") (rBi X.K g .abs) := by
  refine cr1 (f := biAbs) (fun _ => rfl) fun pins s σ H v us Q F S x d I rv fh pn r e q => ?_
  cases x <;> simp only [biAbs] at e <;> (try (cases e; done)) <;> simp only [Rep] at r
  cases e
  subst r
  exact call_abs pins s σ H _ us Q I rv ⟨_, rfl, q _ F H (Fwd.refl fh pn) rep_int⟩
theorem bi_int : CallR X (.type "int") (rBi X.K g .int) := by
  refine cr1 (f := biInt) (fun _ => rfl) fun pins s σ H v us Q F S x d I rv fh pn r e q => ?_
  cases x <;> simp only [biInt] at e <;> (try (cases e; done)) <;> simp only [Rep] at r <;> cases e <;> subst r
  · exact call_int1 pins s σ H _ us Q I rv (.inr ⟨_, rfl, q _ F H (Fwd.refl fh pn) rep_int⟩)
  · exact call_int1 pins s σ H _ us Q I rv (.inl ⟨_, rfl, q _ F H (Fwd.refl fh pn) rep_int⟩)
theorem bi_bool : CallR X (.type "bool") (rBi X.K g .bool) := by
  refine cr1 (f := biBool) (fun _ => rfl) fun pins s σ H v us Q F S x d I rv fh pn r e q => ?_
  cases x <;> simp only [biBool] at e <;> (try (cases e; done)) <;> simp only [Rep] at r <;> cases e <;> subst r
  · exact call_bool1 pins s σ H _ us Q I rv (.inr ⟨_, rfl, q _ F H (Fwd.refl fh pn) rep_bl⟩)
  · exact call_bool1 pins s σ H _ us Q I rv (.inl ⟨_, rfl, q _ F H (Fwd.refl fh pn) rep_bl⟩)
theorem bi_tuple : CallR X (.type "tuple") (rBi X.K g .tuple) := by
  refine cr1 (f := biTuple) (fun _ => rfl) fun pins s σ H v us Q F S x d I rv fh pn r e q => ?_
  have r' := r
  cases x <;> simp only [biTuple] at e <;> (try (cases e; done)) <;> simp only [Rep] at r <;> cases e <;> obtain ⟨a, ws, rfl, hq, rs⟩ := r
  · exact call_tuple_of pins s σ H _ us Q I rv ⟨a, ws, rfl, .inr ⟨TupAt.sq fh hq, q _ F H (Fwd.refl fh pn) r'⟩⟩
  · exact call_tuple_of pins s σ H _ us Q I rv ⟨a, ws, rfl, .inl ⟨SqL.of (fh _ _ hq), fun l hl => new_tup fh pn rs hl q⟩⟩
theorem bi_list : CallR X (.type "list") (rBi X.K g .list) := by
  refine cr1 (f := biList) (fun _ => rfl) fun pins s σ H v us Q F S x d I rv fh pn r e q => ?_
  cases x <;> simp only [biList] at e <;> (try (cases e; done)) <;> simp only [Rep] at r <;> cases e <;> obtain ⟨a, ws, rfl, hq, rs⟩ := r
  · exact call_list_of pins s σ H _ us Q I rv ⟨a, ws, rfl, .inr (TupAt.sq fh hq), fun l hl => new_lst fh pn rs hl q⟩
  · exact call_list_of pins s σ H _ us Q I rv ⟨a, ws, rfl, .inl (SqL.of (fh _ _ hq)), fun l hl => new_lst fh pn rs hl q⟩
/-- tuples of ints, as the heap has them -/
theorem tupInts_of {K : PySem.W.Frag} {F H : Hp} {d : D} {v : V} {l : List Int} (fh : Same F H) (r : Rep K g F d v) (h : tupInts d = some l) : TupH H v l ∧ l ≠ [] ∧ d = ofInts l := by
  cases d <;> simp only [tupInts] at h <;> (try (cases h; done))
  rename_i xs
  cases z : intsOf xs with
  | none => rw [z] at h; cases h
  | some l' =>
    rw [z] at h
    have h : (if l' = [] then none else some l') = some l := h
    by_cases e : l' = []
    · rw [if_pos e] at h; cases h
    · rw [if_neg e] at h; cases h
      simp only [Rep] at r
      obtain ⟨a, vs, rfl, hq, rs⟩ := r
      have e1 := reps_ints rs z
      subst e1
      exact ⟨⟨a, rfl, fh _ _ hq⟩, e, by rw [ofInts, intsOf_map z]⟩
theorem tls_of {K : PySem.W.Frag} {F H : Hp} (fh : Same F H) : ∀ {ds : List D} {vs : List V} {L : List (List Int)}, Reps K g F ds vs → tupsInts ds = some L → TLs K H vs L ∧ ∀ n ∈ L, n ≠ []
  | [], vs, L, r, h => by
    simp only [Reps] at r
    simp only [tupsInts] at h
    cases h; subst r
    exact ⟨.nil, fun n hn => absurd hn (by simp)⟩
  | d :: ds, vs, L, r, h => by
    simp only [Reps] at r
    simp only [tupsInts] at h
    obtain ⟨v, rest, rfl, r1, r2⟩ := r
    cases z1 : tupInts d with
    | none => rw [z1] at h; cases h
    | some l =>
      rw [z1] at h
      cases z2 : tupsInts ds with
      | none => rw [z2] at h; cases h
      | some L' =>
        rw [z2] at h; cases h
        obtain ⟨a1, a2, _⟩ := tupInts_of fh r1 z1
        obtain ⟨b1, b2⟩ := tls_of fh r2 z2
        refine ⟨.cons a1 b1, fun n hn => ?_⟩
        rcases List.mem_cons.mp hn with rfl | hn
        · exact a2
        · exact b2 n hn
theorem reps_tls {K : PySem.W.Frag} {F H : Hp} (fh : Same F H) : ∀ {vs : List V} {L : List (List Int)}, TLs K H vs L → Reps K g (tupsF F H) (L.map ofInts) vs
  | _, _, .nil => Reps.nil
  | _, _, .cons (n := n) ⟨t, e, ht⟩ tl => by
    refine Reps.cons ?_ (reps_tls fh tl)
    unfold ofInts
    simp only [Rep]
    exact ⟨t, _, e, tupsF_at fh ht, Reps.ints⟩
/-- a new list of tuples that the heap has -/
theorem new_tls {K : PySem.W.Frag} {F H : Hp} {S : Pn} {L : List (List Int)} {ys : List V} {Q : V → Hp → Prop} {p : Addr} (fh : Same F H) (pn : PenOk g F H S) (t : TLs K H ys L) (hp : H p = none)
    (q : ∀ v F' H', Fwd g F H F' H' S → Rep K g F' (.lst (L.map ofInts)) v → Q v H') : Q (.ref p) (upd H p (.lst ys)) := by
  have f := Fwd.tups fh pn
  exact new_lst f.fh f.pn (reps_tls fh t) hp fun v F' H' f' r => q v F' H' (f.trans f') r
theorem bi_sorted : CallR X (.builtin "sorted") (rBi X.K g .sorted) := by
  refine cr1 (f := biSorted) (fun _ => rfl) fun pins s σ H v us Q F S x d I rv fh pn r e q => ?_
  cases x <;> simp only [biSorted] at e <;> (try (cases e; done))
  rename_i xs
  cases z : tupsInts xs with
  | none => rw [z] at e; cases e
  | some L =>
    rw [z] at e; cases e
    simp only [Rep] at r
    obtain ⟨a, ws, rfl, hq, rs⟩ := r
    obtain ⟨t1, t2⟩ := tls_of fh rs z
    exact cr_sortL pins s σ H _ us Q I rv ⟨a, ws, L, rfl, SqL.of (fh _ _ hq), t1, t2, fun ys p t hp => new_tls fh pn t hp q⟩
theorem biT {b : Bi} {c : Expr} {fs : List (Option D) → M (List D)} (h : PE X c (tCB (rBi X.K g b) (tDs X.K g E fs))) :
    PD X g E c (fun ρ => bnd (fs ρ) fun ds => ofO (biD b ds)) := by
  refine PE.weak h fun σ H Q h => ?_
  obtain ⟨F, ρ, S, st, p⟩ := h
  refine ⟨F, ρ, S, st, (p.bind (RepsD X.K g)).imp ?_⟩
  rintro xs H1 ⟨dxs, F1, S1, f1, r1, p⟩
  obtain ⟨d, e, q⟩ := p.ofO
  exact ⟨F1, S1, dxs, d, f1.fh, f1.pn, r1, e, fun v F' H' f r => q F' H' v f r⟩
/-- x.f -/
theorem pd_att {x f : Str} {i : Nat} {p pos : Pos} {fe : List (Option D) → M D} (hen : ∀ e, g.en = some e → EnOk X.K e) (he : PD X g E (.Name x p) fe) : PD X g E (.Attribute (.Name x p) f pos) (fun ρ => bnd (fe ρ) fun d => ofO (attD f d)) := by
  refine ⟨fun pins s σ H Q I h => attr_of rfl (thn (he.run pins s σ H (fun x H1 => ∃ d F1 S1, Same F1 H1 ∧ PenOk g F1 H1 S1 ∧ Rep X.K g F1 d x ∧ Post X.K g E F1 H1 (ofO (attD f d) S1) (RepD X.K g) Q) I ?_) fun u s1 got => ?_)⟩
  · obtain ⟨F, ρ, S, st, pp⟩ := h
    refine ⟨F, ρ, S, st, (pp.bind (RepD X.K g)).imp ?_⟩
    rintro x H1 ⟨d, F1, S1, f1, r1, p1⟩
    exact ⟨d, F1, S1, f1.fh, f1.pn, r1, p1⟩
  · obtain ⟨v, H1, I1, ru, d, F1, S1, fh, pn, r1, p1⟩ := got
    obtain ⟨d', e, q⟩ := p1.ofO
    cases d <;> simp only [attD] at e <;> (try (cases e; done))
    rename_i isx fv
    simp only [Rep] at r1
    obtain ⟨en, hen', rfl, rfl, rfl⟩ := r1
    cases hl : en.fv.lookup f with
    | none => rw [hl] at e; cases e
    | some w =>
      rw [hl] at e; cases e
      obtain rfl : u = Value.ref en.a := ru
      have ok := hen en hen'
      obtain ⟨mA, od, J, rel, look⟩ := en_inst I1 fh pn hen' ok
      obtain ⟨u, hu, ru⟩ := RelO.some_of (v := w) (o := mA f) (by rw [← (ok.no f w hl).2]; exact rel f)
      exact HandSPX.exc_get I1.kIn J ok.x.ga ok.x.gg ok.x.exC (PySem.W.findObj_own ok.x.hdC (ok.no f w hl).1 rfl (by rw [look, hu])) (handed_of ru) ⟨w, H1, I1.tok _, ru, q F1 H1 w (Fwd.refl fh pn) (by simp only [RepD, Rep])⟩
theorem look_cons {β : Type} {x y : Str} {b c : β} {l : List (Str × β)} (h : List.lookup x ((y, b) :: l) = some c) : (x = y ∧ b = c) ∨ List.lookup x l = some c := by
  rw [List.lookup_cons] at h
  cases e : x == y with
  | true => rw [e] at h; cases h; exact .inl ⟨by simpa using e, rfl⟩
  | false => rw [e] at h; exact .inr h
theorem pd_bi {f : Str} {b : Bi} {e : Expr} {es : List Expr} {fs : List (Option D) → M (List D)} {p pos : Pos} (hc : X.calm = true) (hen : ∀ e, g.en = some e → EnOk X.K e) (hg : Gl X f) (hm : X.mg f = none) (o : OkName f) (hb : biName f = some b) (ha : PDs X g E (e :: es) fs)
    (he
        : starEach (e :: es) X.env = (false, eval e X.env) :: starEach es X.env) (hpl : (backTo pos (starEach es X.env)).any (·.1) = false) :
    PD X g E (.Call (.Name f p) (e :: es) [] pos) (fun ρ => bnd (fs ρ) fun ds => ofO (biD b ds)) := by
  unfold biName biNames at hb
  rcases look_cons hb with ⟨rfl, rfl⟩ | hb
  · exact biT (pe_callB bi_len hg hm boot_len ha o.n o.d he hpl)
  rcases look_cons hb with ⟨rfl, rfl⟩ | hb
  · exact biT (pe_callB (bi_isi hen) hg hm boot_isinstance ha o.n o.d he hpl)
  rcases look_cons hb with ⟨rfl, rfl⟩ | hb
  · exact biT (pe_callB (bi_all hc) hg hm boot_all ha o.n o.d he hpl)
  rcases look_cons hb with ⟨rfl, rfl⟩ | hb
  · exact biT (pe_callB (bi_any hc) hg hm boot_any ha o.n o.d he hpl)
  rcases look_cons hb with ⟨rfl, rfl⟩ | hb
  · exact biT (pe_callTy bi_tuple hg hm (by decide +kernel) ha o.n o.d he hpl)
  rcases look_cons hb with ⟨rfl, rfl⟩ | hb
  · exact biT (pe_callTy bi_list hg hm (by decide +kernel) ha o.n o.d he hpl)
  rcases look_cons hb with ⟨rfl, rfl⟩ | hb
  · exact biT (pe_callB bi_abs hg hm boot_abs ha o.n o.d he hpl)
  rcases look_cons hb with ⟨rfl, rfl⟩ | hb
  · exact biT (pe_callTy bi_int hg hm (by decide +kernel) ha o.n o.d he hpl)
  rcases look_cons hb with ⟨rfl, rfl⟩ | hb
  · exact biT (pe_callTy bi_bool hg hm (by decide +kernel) ha o.n o.d he hpl)
  rcases look_cons hb with ⟨rfl, rfl⟩ | hb
  · exact biT (pe_callB (bi_sum hc) hg hm boot_sum ha o.n o.d he hpl)
  rcases look_cons hb with ⟨rfl, rfl⟩ | hb
  · exact biT (pe_callB (bi_min hc) hg hm (by decide +kernel) ha o.n o.d he hpl)
  rcases look_cons hb with ⟨rfl, rfl⟩ | hb
  · exact biT (pe_callB (bi_max hc) hg hm (by decide +kernel) ha o.n o.d he hpl)
  rcases look_cons hb with ⟨rfl, rfl⟩ | hb
  · exact biT (pe_callB bi_sorted hg hm (by decide +kernel) ha o.n o.d he hpl)
  cases hb
end
end Pur

/-! PurZip: zip and enumerate over lists and tuples in any mix. -/
namespace Pur
open
    PySem PySem.Spec PyProof.Rows L2
/-- a list (true), a tuple -/
def SqK : Bool → PySem.W.Frag → Hp → Addr → List V → Prop
  | true => SqL
  | false => SqT
def IterK : Bool → Heap → Addr → Addr → Nat → Prop
  | true, h, it, a, i => h.IsListIter it a i
  | false, h, it, a, i => h.IsTupleIter it a i
def SeqK : Bool → Heap → Addr → Array Value → Prop
  | true, h, a, its => h.IsList a its
  | false, h, a, its => h.IsTuple a its
def objK : Bool → Addr → Obj
  | true, a => { cls := .type "list_iterator", data := .fields #[.ref a, .int 0 0] }
  | false, a => { cls := .type "tuple_iterator", data := .fields #[.ref a, .int 0 0] }
section
variable {X : Cx} {pins : List (Addr × Obj)} {σ : L2.St} {H : Hp} {s : Shared} {a : Addr} {xs ys : List V} {k : Bool}
theorem sqK_vals (I : L2.Inv X pins σ H s) (h : SqK k X.K H a xs) : ∃ its : List Value, Vals xs its ∧ SeqK k s.heap a its.toArray := by
  cases k with
  | true =>
    obtain ⟨its, r, p, _⟩ := I.list h
    exact ⟨its, r, p.isList⟩
  | false =>
    obtain ⟨its, r, p, _⟩ := I.tuple h
    exact ⟨its, r, (show s.heap.IsTuple a its.toArray from p)⟩
theorem sqK_inj (I : L2.Inv X pins σ H s) (h : SqK k X.K H a xs) (h' : SqK k X.K H a ys) : xs = ys := by
  cases k with
  | true => exact I.list_inj h h'
  | false => exact I.tuple_inj h h'
theorem IterK.at' {h h' : Heap} {it a : Addr} {i : Nat} (st : IterK k h it a i) (hk : ∀ o, h.get? it = some o → h'.get? it = some o) : IterK k h' it a i := by
  cases k with
  | true => exact Heap.IsListIter.at st hk
  | false => exact Heap.IsTupleIter.at st hk
theorem IterK.new {h : Heap} {it a : Addr} (e : h.get? it = some (objK k a)) : IterK k h it a 0 := by
  cases k with
  | true => exact ⟨_, e, rfl, rfl⟩
  | false => exact ⟨_, e, rfl, rfl⟩
theorem IterK.obj {h : Heap} {it a : Addr} {i : Nat} (st : IterK k h it a i) : ∃ o, h.get? it = some o ∧ ∀ v, o.data ≠ .cell v := by
  cases k with
  | true => obtain ⟨o, e, _, d⟩ := st; exact ⟨o, e, fun v q => by rw [d] at q; cases q⟩
  | false => obtain ⟨o, e, _, d⟩ := st; exact ⟨o, e, fun v q => by rw [d] at q; cases q⟩
theorem drawsK {prog : Program} {w : World} {A : Around} (k : Bool) (hh : A.handled = none) (it l : Addr) (hne : l ≠ it) (items : Array Value) :
    Draws prog w A it [it, l] items.size (fun i v => items[i]? = some v) (fun i h => IterK k h it l i ∧ SeqK k h l items) := by
  cases k with
  | true => exact Draws.list hh it l hne items
  | false => exact Draws.tuple hh it l hne items
theorem beginsK (k : Bool) (a : Addr) (items : Array Value) : Begins (.ref a) (objK k a) (fun h => SeqK k h a items) := by
  cases k with
  | true => exact begins_list a items
  | false => exact begins_tuple a items
end
/-- the sequences at a and b as they stand at each turn, the items in new pairs -/
def ItzM (K : PySem.W.Frag) (k1 k2 : Bool) (a b : Addr) : It :=
  ⟨fun i H => ∃ (xs ys : List V) (x y : V), SqK k1 K H a xs ∧ SqK k2 K H b ys ∧ xs[i]? = some x ∧ ys[i]? = some y,
    fun i H v H' => ∃ T x y, v = .ref T ∧ H T = none ∧ H' = upd H T (.tup [x, y]) ∧ (∀ xs, SqK k1 K H a xs → xs[i]? = some x) ∧ ∀ ys, SqK k2 K H b ys → ys[i]? = some y,
    fun i H => ∃ xs ys : List V, SqK k1 K H a xs ∧ SqK k2 K H b ys ∧ i ≤ xs.length ∧ i ≤ ys.length ∧ (i = xs.length ∨ i = ys.length)⟩
/-- what is apart of a zip's cells -/
structure ZipM (z TI TO i1 i2 a b : Addr) : Prop where
  S : ZipSep2 z TI TO i1 i2 [i1, a] [i2, b]
  a1 : a ≠ i1
  b2 : b ≠ i2
theorem turn_zipM {P : Program} {w : World} {K : PySem.W.Frag} {elts : List Expr} {kk : Nat} {tpos : Pos} {k1 k2 : Bool} {a b z TI TO i1 i2 : Addr} (D : ZipM z TI TO i1 i2 a b) :
    Turn P w K (.Tuple elts kk tpos) (ItzM K k1 k2 a b) [z, TI, TO, i1, i2] z (fun i h => IsZip h z TI TO .none ∧ IsTupOf2 h TI (.ref i1) (.ref i2) ∧ (∃ x y, IsTupOf2 h TO x y) ∧ IterK k1 h i1 a i ∧ IterK k2 h i2 b i) where
  mem := by simp
  obj := fun i h st c hc => by
    obtain
        ⟨hz, hTI, ⟨x, y, hTO⟩, h1, h2⟩ := st
    have
        e' : c = z ∨ c = TI ∨ c = TO ∨ c = i1 ∨ c = i2 := by simpa using hc
    rcases
        e' with q | q | q | q | q
    · rw
          [q]; exact ⟨_, hz, fun v q => nomatch q⟩
    · rw
          [q]; exact ⟨_, hTI, fun v q => nomatch q⟩
    · rw
          [q]; exact ⟨_, hTO, fun v q => nomatch q⟩
    · rw [q]; exact h1.obj
    · rw [q]; exact h2.obj
  keep := fun i h h' st k => by
    obtain
        ⟨hz, hTI, ⟨x, y, hTO⟩, h1, h2⟩ := st
    exact ⟨k z (by simp) _ hz, k TI (by simp) _ hTI, ⟨x, y, k TO (by simp) _ hTO⟩, h1.at' fun o q => k i1 (by simp) o q, h2.at' fun o q => k i2 (by simp) o q⟩
  item := by
    intro
        X hP hw hK hc i pins s σ H E I hf st hg
    subst hP hw hK
    obtain
        ⟨hz, hTI, ⟨x0, y0, hTO⟩, h1, h2⟩ := st
    obtain
        ⟨xs, ys, x, y, hqx, hqy, hx, hy⟩ := hg
    obtain ⟨its, rv, p⟩ := sqK_vals I hqx
    obtain ⟨its2, rv2, p2⟩ := sqK_vals I hqy
    obtain
        ⟨u, hu, ru⟩ := rv.get hx
    obtain
        ⟨u2, hu2, ru2⟩ := rv2.get hy
    have
        hzl : z < s.heap.objs.size := Heap.lt_size hz
    have l1 : i < its.toArray.size := by have := (List.getElem?_eq_some_iff.mp hu).1; simpa using this
    have l2 : i < its2.toArray.size := by have := (List.getElem?_eq_some_iff.mp hu2).1; simpa using this
    refine wpAny_pyNext_zipD2_item D.S (drawsK k1 (show X.A.in1.handled = none from I.ok.hd hc) i1 a D.a1 its.toArray) (drawsK k2 (show X.A.in1.handled = none from I.ok.hd hc) i2 b D.b2 its2.toArray) hz hTI hTO ⟨h1, p⟩ ⟨h2, p2⟩ l1 l2 fun v1 v2 h' tk e1 e2 z' TO' h1' h2' hT hsz hk => ?_
    have ev1 : v1 = u := by
      have : its[i]? = some v1 := by simpa using e1
      rw [hu] at this; exact (Option.some.inj this).symm
    have ev2 : v2 = u2 := by
      have : its2[i]? = some v2 := by simpa using e2
      rw [hu2] at this; exact (Option.some.inj this).symm
    subst ev1 ev2
    refine ⟨_, rfl, wpAny_letOwnedTupleGo_zip (s := { s with heap := h', toks := tk }) z' fun h'' z'' sb => ?_⟩
    have hT2 : h''.get? s.heap.objs.size = some { cls := .type "tuple", data := .seq #[v1, v2] } := (sb.2 _ (Nat.ne_of_gt hzl)).trans hT
    have
        new : ObjOk X.prog X.w (upd H s.heap.objs.size (.tup [x, y])) h'' s.heap.objs.size (.tup [x, y]) :=
      ⟨by show 2 ≤ sizeLine; decide, [v1, v2], .cons ru (.cons ru2 .nil), ⟨_, hT2, rfl, _, rfl⟩⟩
    have I1 : L2.Inv X pins σ (upd H s.heap.objs.size (.tup [x, y])) { s with heap := h'', toks := tk } :=
      I.turnedNew (t' := tk) (ch := [z, TI, TO, i1, i2]) (fun c o hb q => (sb.2 c (fun q' => hb (by simp [q']))).trans (hk c o (fun q' => hb (by simp [q'])) (fun q' => hb (by simp [q'])) (fun q' => hb (by simp [q'])) (fun q' => hb (by simp [q'])) q)) hf (Nat.le_refl _) new
    refine ⟨.ref s.heap.objs.size, _, I1, rfl, ⟨_, x, y, rfl, I.hok.fresh (Nat.le_refl _), rfl, fun l hl => by rw [sqK_inj I hl hqx]; exact hx, fun l hl => by rw [sqK_inj I hl hqy]; exact hy⟩, ⟨z'', ?_, ⟨v1, v2, ?_⟩, ?_, ?_⟩, fun c hcm => ?_⟩
    · exact (sb.2 _ D.S.TIz).trans (hk _ _ D.S.TIz D.S.TITO D.S.TIi1 D.S.TIi2 hTI)
    · exact (sb.2 _ D.S.TOz).trans TO'
    · exact h1'.1.at' fun o q => (sb.2 _ D.S.zi1.symm).trans q
    · exact h2'.1.at' fun o q => (sb.2 _ D.S.zi2.symm).trans q
    · have
          hlt : c < s.heap.objs.size := by
        have
            e' : c = z ∨ c = TI ∨ c = TO ∨ c = i1 ∨ c = i2 := by simpa using hcm
        rcases
            e' with q | q | q | q | q
        · rw [q]; exact hzl
        · rw
              [q]; exact Heap.lt_size hTI
        · rw
              [q]; exact Heap.lt_size hTO
        · rw [q]; obtain ⟨_, e1, _⟩ := h1.obj; exact Heap.lt_size e1
        · rw [q]; obtain ⟨_, e2, _⟩ := h2.obj; exact Heap.lt_size e2
      rw
          [upd_ne (Nat.ne_of_lt hlt)]
      exact (hf c hcm).1
  done := by
    intro
        X hP hw hK hc i pins s σ H E I hf st hg
    subst hP hw hK
    obtain
        ⟨hz, hTI, ⟨x0, y0, hTO⟩, h1, h2⟩ := st
    obtain ⟨xs, ys, hqx, hqy, g1, g2, hend⟩ := hg
    obtain ⟨its, rv, p⟩ := sqK_vals I hqx
    obtain ⟨its2, rv2, p2⟩ := sqK_vals I hqy
    have l1 := rv.length
    have l2 := rv2.length
    exact wpAny_pyNext_zipD2_end D.S (drawsK k1 (show X.A.in1.handled = none from I.ok.hd hc) i1 a D.a1 its.toArray) (drawsK k2 (show X.A.in1.handled = none from I.ok.hd hc) i2 b D.b2 its2.toArray) hz hTI hTO ⟨h1, p⟩ ⟨h2, p2⟩ (by simp; omega) (by simp; omega) (by simp; omega) fun h' tk hk => ⟨rfl, I.turnedL (t' := tk) (ch := [z, TI, TO, i1, i2]) (fun c o hb q =>
      hk
          c o (fun q' => hb (by simp [q'])) (fun q' => hb (by simp [q'])) (fun q' => hb (by simp [q'])) (fun q' => hb (by simp [q'])) q) hf⟩
  self
      := fun A i s Q E st h => wpAny_pyIter_zip st.1 h
theorem zipM_nat (N a b : Nat) (la : a < N) (lb : b < N) : ZipM (N + 4) (N + 2) (N + 3) N (N + 1) a b where
  S := {
    TIz := show (N + 2 : Nat) ≠ N + 4 by omega
    TOz := show (N + 3 : Nat) ≠ N + 4 by omega
    TITO := show (N + 2 : Nat) ≠ N + 3 by omega
    TIi1 := show (N + 2 : Nat) ≠ N by omega
    mem1 := List.mem_cons_self
    zf1 := show (N + 4 : Nat) ∉ ([N, a] : List Nat) by simp <;> omega
    Tf1 := show (N + 3 : Nat) ∉ ([N, a] : List Nat) by simp <;> omega
    TIi2 := show (N + 2 : Nat) ≠ N + 1 by omega
    mem2 := List.mem_cons_self
    zf2 := show (N + 4 : Nat) ∉ ([N + 1, b] : List Nat) by simp <;> omega
    Tf2 := show (N + 3 : Nat) ∉ ([N + 1, b] : List Nat) by simp <;> omega
    sep1_2 := show (N : Nat) ∉ ([N + 1, b] : List Nat) by simp <;> omega
    sep2_1 := show (N + 1 : Nat) ∉ ([N, a] : List Nat) by simp <;> omega }
  a1 := show (a : Nat) ≠ N by omega
  b2 := show (b : Nat) ≠ N + 1 by omega
def iZipM (K : PySem.W.Frag) (ta : TA) : TI := fun σ H R => ta σ H fun vs H1 => ∃ k1 k2 a b xs ys, vs = [.ref a, .ref b] ∧ SqK k1 K H1 a xs ∧ SqK k2 K H1 b ys ∧ R (ItzM K k1 k2 a b) H1
theorem seqK_lt {k : Bool} {h : Heap} {a : Addr} {its : Array Value} (p : SeqK k h a its) : a < h.objs.size := by
  cases k with
  | true => obtain ⟨o, h1, h2⟩ := p; first | exact Heap.lt_size h1 | exact Heap.lt_size h2.1
  | false => obtain ⟨o, h1, h2⟩ := p; first | exact Heap.lt_size h1 | exact Heap.lt_size h2.1
theorem pi_zipM {X : Cx} {e e2 : Expr} {ta : TA} {p pos tpos : Pos} {elts : List Expr} {kk : Nat} (hg : Gl X "zip") (hm : X.mg "zip" = none) (ha : PA X [e, e2] ta)
    (hs : starEach [e, e2] X.env = (false, eval e X.env) :: starEach [e2] X.env) (hpl : (backTo pos (starEach [e2] X.env)).any (·.1) = false) :
    PI X (.Tuple elts kk tpos) (.Call (.Name "zip" p) [e, e2] [] pos) (iZipM X.K ta) := by
  refine
      ⟨fun pins s σ H R I h => ?_⟩
  refine
      Call_ (ld_blt I hg hm PyProof.Rows.boot_zip (PyProof.Rows.callWith_type1 (thn (ha.run pos pins s σ H _ I h) fun us s1 ⟨vs, H1, I1, r1, q1⟩ => ?_) hs hpl))
  obtain ⟨k1, k2, a, b, xs, ys, ex, hqx, hqy, q⟩ := q1
  subst ex
  cases r1 with
  | cons r rr =>
    cases rr with
    | cons r' rr =>
      cases rr
      cases r
      cases r'
      obtain ⟨its, rv, p1⟩ := sqK_vals I1 hqx
      obtain ⟨its2, rv2, p2⟩ := sqK_vals I1 hqy
      have la := seqK_lt p1
      have lb := seqK_lt p2
      refine zip_begins2 (beginsK k1 a its.toArray) (beginsK k2 b its2.toArray) p1 p2 fun h' hz hTI hTO h1 h2 hsz hk => wpAny_pyIter_zip hz ?_
      have I2 : L2.Inv X pins σ H1 { s1 with heap := h' } := I1.kept (t' := s1.toks) hk
      have D : ZipM (s1.heap.objs.size + 4) (s1.heap.objs.size + 2) (s1.heap.objs.size + 3) s1.heap.objs.size (s1.heap.objs.size + 1) a b := by
        exact zipM_nat _ _ _ la lb
      refine ⟨s1.heap.objs.size + 4, [s1.heap.objs.size + 4, s1.heap.objs.size + 2, s1.heap.objs.size + 3, s1.heap.objs.size, s1.heap.objs.size + 1], _, _, H1, rfl, I2, turn_zipM D, ⟨hz, hTI, ⟨_, _, hTO⟩, .new h1, .new h2⟩, fun c hcm => ?_, q⟩
      have
          e' : c = s1.heap.objs.size + 4 ∨ c = s1.heap.objs.size + 2 ∨ c = s1.heap.objs.size + 3 ∨ c = s1.heap.objs.size ∨ c = s1.heap.objs.size + 1 := by simpa using hcm
      have
          hle : s1.heap.objs.size ≤ c := by
        rcases
            e' with z | z | z | z | z
        · rw
              [z]; exact Nat.le_add_right _ _
        · rw
              [z]; exact Nat.le_add_right _ _
        · rw
              [z]; exact Nat.le_add_right _ _
        · rw [z]; exact Nat.le_refl _
        · rw
              [z]; exact Nat.le_add_right _ _
      exact
          I1.fpOk hle (I1.hok.fresh hle)
/-! ### enumerate of any sequence -/
set_option maxHeartbeats 2000000 in
theorem meets_enum1 {v : Value} {o : Obj} {H : Heap → Prop} (B : Begins v o H) :
    Meets (Builtin.«enumerate.__new__» ⟨[.type "enumerate", v], []⟩) (fun _ R s => H s.heap ∧
      R (.ok (.ret (.ref (s.heap.push o).objs.size))) { s with heap := (s.heap.push o).push { cls := .type "enumerate", data := .fields #[.none, .bool false, .ref s.heap.objs.size, rawInt 0, .none, .none] } }) :=
  .of_wp
      fun prog w A R s h => by
    obtain
        ⟨hp, g, d, tk, os⟩ := s; obtain ⟨h1, h⟩ := h
    have hsub := sub_enumerate
    have
        q1 : ∀ {A' : Around} {E : Value → Shared → Prop} {Q : Value → Shared → Prop}, Q (.ref hp.objs.size) ⟨hp.push o, g, d, tk, os⟩ → wpAny (model prog w) A' (pyIter v) Q E ⟨hp, g, d, tk, os⟩ :=
      fun
          q => B.iter prog w _ _ ⟨hp, g, d, tk, os⟩ _ h1 q
    wp_walk using q1
    refine
        wpAny_stack_any fun st => wpAny_pure ?_
    split
    · rename_i c _ _ _ _ _
      cases
          (c == Value.type "enumerate")
      · wp_walk using q1
        exact ⟨_, rfl, h⟩
      · wp_walk using q1
        exact ⟨_, rfl, h⟩
    · wp_walk using q1
      exact ⟨_, rfl, h⟩
theorem enum_begins1 {prog : Program} {w : World} {A : Around} {E : Value → Shared → Prop} {s : Shared} {v : Value} {o : Obj} {H : Heap → Prop} {Q : Value → Shared → Prop} (B : Begins v o H) (h1 : H s.heap)
    (h : ∀ h', IsEnum h' (s.heap.objs.size + 1) s.heap.objs.size 0 .none → h'.get? s.heap.objs.size = some o → h'.objs.size = s.heap.objs.size + 2 →
      (∀
          b o, s.heap.get? b = some o → h'.get? b = some o) → Q (.ref (s.heap.objs.size + 1)) { s with heap := h' }) :
    wpAny (model prog w) A (call (.type "enumerate") [v]) Q E s := by
  refine
      callType_new F.called_enumerate (by decide) (F.typeCall_enumerate_1 _) (F.newCall_enumerate_1 _) (fun obj => F.args_object_init_2 obj _) F.entry_enumerate_new
    (meets_enum1 B) ⟨h1, ?_⟩
  have
      hz : (s.heap.push o).objs.size = s.heap.objs.size + 1 := Heap.size_push ..
  show _ ∧ _
  rw [hz]
  have he : IsEnum ((s.heap.push o).push { cls := .type "enumerate", data := .fields #[.none, .bool false, .ref s.heap.objs.size, rawInt 0, .none, .none] }) (s.heap.objs.size + 1) s.heap.objs.size 0 .none := by
    have := Heap.get?_push_size (s.heap.push o) (o := { cls := .type "enumerate", data := .fields #[.none, .bool false, .ref s.heap.objs.size, rawInt 0, .none, .none] }) rfl
    rw [hz] at this; exact this
  refine
      ⟨⟨_, he, rfl⟩, h _ he (Heap.get?_push_of_some _ (Heap.get?_push_size _ B.free)) (by rw [Heap.size_push, hz]) fun b o x => Heap.get?_push_of_some _ (Heap.get?_push_of_some _ x)⟩
def IteM (K : PySem.W.Frag) (k : Bool) (a : Addr) : It :=
  ⟨fun i H => ∃ (xs : List V) (x : V), SqK k K H a xs ∧ xs[i]? = some x, fun i H v H' => ∃ T x, v = .ref T ∧ H T = none ∧ H' = upd H T (.tup [.int (i : Nat), x]) ∧ ∀ xs, SqK k K H a xs → xs[i]? = some x, fun i H => ∃ xs : List V, SqK k K H a xs ∧ i = xs.length⟩
theorem turn_enumM {P : Program} {w : World} {K : PySem.W.Frag} {elts : List Expr} {kk : Nat} {tpos : Pos} {k : Bool} (a e it : Addr) (hai : a ≠ it) (hae : a ≠ e) :
    Turn P w K (.Tuple elts kk tpos) (IteM K k a) [e, it] e (fun i h => (∃ old, IsEnum h e it ((i : Nat) : Int) old) ∧ IterK k h it a i ∧ e ≠ it) where
  mem := by simp
  obj := fun i h st b hb => by
    obtain ⟨⟨old, he⟩, hi, hne⟩ := st
    have
        e' : b = e ∨ b = it := by simpa using hb
    rcases e' with z | z
    · rw
          [z]; exact ⟨_, he, fun v q => nomatch q⟩
    · rw [z]; exact hi.obj
  keep := fun i h h' st k => let ⟨⟨old, he⟩, hi, hne⟩ := st; ⟨⟨old, k e (by simp) _ he⟩, hi.at' fun o q => k it (by simp) o q, hne⟩
  item := by
    intro
        X hP hw hK hc i pins s σ H E I hf st hg
    subst hP hw hK
    obtain
        ⟨⟨old, he⟩, hit, hne⟩ := st
    obtain ⟨xs, x, hq, hx⟩ := hg
    obtain ⟨its, rv, p⟩ := sqK_vals I hq
    obtain
        ⟨u, hu, ru⟩ := rv.get hx
    have
        hel : e < s.heap.objs.size := Heap.lt_size he
    have hil : it < s.heap.objs.size := by obtain ⟨_, q, _⟩ := hit.obj; exact Heap.lt_size q
    have l1 : i < its.toArray.size := by have := (List.getElem?_eq_some_iff.mp hu).1; simpa using this
    refine wpAny_pyNext_enum_itemC (drawsK k (show X.A.in1.handled = none from I.ok.hd hc) it a hai its.toArray) he ⟨hit, p⟩ l1 hne (by simp [hne, Ne.symm hae]) fun v h' tk ev ho hit' hT hsz hk => ?_
    have ev : v = u := by
      have : its[i]? = some v := by simpa using ev
      rw [hu] at this; exact (Option.some.inj this).symm
    subst ev
    refine ⟨_, rfl, wpAny_letOwnedTupleGo_enum (s := { s with heap := h', toks := tk + 1 }) ho fun h'' he' sb => ?_⟩
    have hT2 : h''.get? s.heap.objs.size = some { cls := .type "tuple", data := .seq #[.int i tk, v] } := (sb.2 _ (Nat.ne_of_gt hel)).trans hT
    have
        new : ObjOk X.prog X.w (upd H s.heap.objs.size (.tup [.int (i : Nat), x])) h'' s.heap.objs.size (.tup [.int (i : Nat), x]) :=
      ⟨by show 2 ≤ sizeLine; decide, [.int i tk, v], .cons ⟨_, rfl⟩ (.cons ru .nil), ⟨_, hT2, rfl, _, rfl⟩⟩
    have I1 : L2.Inv X pins σ (upd H s.heap.objs.size (.tup [.int (i : Nat), x])) { s with heap := h'', toks := tk + 1 } :=
      I.turnedNew
          (ch := [e, it]) (fun b ob hb q => (sb.2 b (fun z => hb (by simp [z]))).trans (hk b ob (fun z => hb (by simp [z])) (fun z => hb (by simp [z])) q)) hf (Nat.le_refl _) new
    refine ⟨.ref s.heap.objs.size, _, I1, rfl, ⟨_, x, rfl, I.hok.fresh (Nat.le_refl _), rfl, fun ys hy => by rw [sqK_inj I hy hq]; exact hx⟩, ⟨⟨v, ?_⟩, hit'.1.at' fun o q => (sb.2 it (Ne.symm hne)).trans q, hne⟩, fun b hb => ?_⟩
    · have
          e1 : ((i + 1 : Nat) : Int) = (i : Int) + 1 := by omega
      rw [e1]; exact he'
    · have
          hb' : b < s.heap.objs.size := by
        have
            e' : b = e ∨ b = it := by simpa using hb
        rcases e' with z | z
        · rw [z]; exact hel
        · rw [z]; exact hil
      rw
          [upd_ne (Nat.ne_of_lt hb')]
      exact (hf b hb).1
  done := by
    intro
        X hP hw hK hc i pins s σ H E I hf st hg
    subst hP hw hK
    obtain
        ⟨⟨old, he⟩, hit, hne⟩ := st
    obtain ⟨xs, hq, hx⟩ := hg
    obtain ⟨its, rv, p⟩ := sqK_vals I hq
    obtain
        ⟨f0, f1, f2, f3, f4, f5⟩ := hf it (by simp)
    have hl := rv.length
    have hi : i = its.toArray.size := by simp; omega
    subst hi
    exact wpAny_pyNext_enum_endD (drawsK k (show X.A.in1.handled = none from I.ok.hd hc) it a hai its.toArray) he ⟨hit, p⟩ fun h' eb => ⟨rfl, I.turned (t' := s.toks) (fun b o hb q => eb b o hb q) f0 f1 f3 f4 f5⟩
  self
      := fun A i s Q E st h => let ⟨⟨_, he⟩, _⟩ := st; wpAny_pyIter_enum he h
def iEnumM (K : PySem.W.Frag) (ta : TA) : TI := fun σ H R => ta σ H fun vs H1 => ∃ k a xs, vs = [.ref a] ∧ SqK k K H1 a xs ∧ R (IteM K k a) H1
theorem enumM_nat (N a : Nat) (la : a < N) : a ≠ N ∧ a ≠ N + 1 ∧ N + 1 ≠ N := by omega
theorem pi_enumM {X : Cx} {e : Expr} {ta : TA} {p pos tpos : Pos} {elts : List Expr} {kk : Nat} (hg : Gl X "enumerate") (hm : X.mg "enumerate" = none) (ha : PA X [e] ta) (hs : starEach [e] X.env = [(false, eval e X.env)]) :
    PI X (.Tuple elts kk tpos) (.Call (.Name "enumerate" p) [e] [] pos) (iEnumM X.K ta) := by
  refine
      ⟨fun pins s σ H R I h => ?_⟩
  refine
      Call_ (ld_blt I hg hm boot_enumerate (PyProof.Rows.callWith_type1 (thn (ha.run pos pins s σ H _ I h) fun us s1 ⟨vs, H1, I1, r1, q1⟩ => ?_) hs rfl))
  obtain ⟨k, a, xs, ex, hq, q⟩ := q1
  subst ex
  cases r1 with
  | cons r rr =>
    cases rr
    cases r
    obtain ⟨its, rv, p'⟩ := sqK_vals I1 hq
    obtain ⟨n1, n2, n3⟩ := enumM_nat _ _ (seqK_lt p')
    refine enum_begins1 (beginsK k a its.toArray) p' fun h' he hit hsz hk => wpAny_pyIter_enum he ?_
    have I2 : L2.Inv X pins σ H1 { s1 with heap := h' } := I1.kept (t' := s1.toks) hk
    refine ⟨s1.heap.objs.size + 1, [s1.heap.objs.size + 1, s1.heap.objs.size], _, _, H1, rfl, I2, turn_enumM a (s1.heap.objs.size + 1) s1.heap.objs.size n1 n2, ⟨⟨.none, he⟩, .new hit, n3⟩, fun b hb => ?_, q⟩
    have
        e' : b = s1.heap.objs.size + 1 ∨ b = s1.heap.objs.size := by simpa using hb
    have
        hle : s1.heap.objs.size ≤ b := by
      rcases e' with z | z
      · rw
            [z]; exact Nat.le_add_right _ _
      · rw [z]; exact Nat.le_refl _
    exact
        I1.fpOk hle (I1.hok.fresh hle)
end Pur

/-! Pur7: what is walked, targets, comprehensions, subscripts. -/
namespace Pur
open
    PySem PySem.Spec PyProof.Rows L2
/-! ### what is walked -/
structure ItOk (K : PySem.W.Frag) (g : G) (F : Hp) (ds : List D) (J : It) : Prop where
  go : ∀ (i : Nat) (F' H' : Hp) (S : Pn) (d : D), ds[i]? = some d → Same F F' → Same F' H' → PenOk g F' H' S → J.go i H' ∧ ∀ x H'', J.yld i H' x H'' → ∃ F'', Fwd g F' H' F'' H'' S ∧ Rep K g F'' d x
  stop : ∀ H', Same F H' → J.stop ds.length H'
  size : ∀ H', Same F H' → Sized H' → ds.length ≤ sizeLine
def tI (K : PySem.W.Frag) (g : G) (E : XK) (f : List (Option D) → M (List D)) : TI := fun σ H R => ∃ F ρ S, Stt K g F H σ ρ S ∧ Post K g E F H (f ρ S) (fun F ds J => ItOk K g F ds J) R
abbrev PDI (X : Cx) (g : G) (E : XK) (tg e : Expr) (f : List (Option D) → M (List D)) : Prop := PI X tg e (tI X.K g E f)
theorem PI.weak {X : Cx} {tg e : Expr} {t t' : TI} (h : PI X tg e t) (w : ∀ σ H R, t' σ H R → t σ H R) : PI X tg e t' := ⟨fun pins s σ H R I q => h.run pins s σ H R I (w _ _ _ q)⟩
section
variable {K : PySem.W.Frag} {g : G} {F : Hp}
theorem itOk_list {ds : List D} {a : Addr} {vs : List V} (e : F a = some (.lst vs)) (r : Reps K g F ds vs) : ItOk K g F ds (Itl K a) where
  go := fun i F' H' S d hd s1 s2 pn => by
    obtain ⟨v, hv, rv⟩ := r.get hd
    have h : H' a = some (.lst vs) := s2 _ _ (s1 _ _ e)
    refine ⟨⟨vs, v, SqL.of h, hv⟩, fun x H'' y => ?_⟩
    obtain ⟨rfl, y⟩ := y
    have := y vs (SqL.of h)
    rw [hv] at this; cases this
    exact ⟨F', Fwd.refl s2 pn, Rep.mono s1 d _ rv⟩
  stop := fun H' s => ⟨vs, SqL.of (s _ _ e), by rw [r.len]; exact Nat.le_refl _⟩
  size := fun H' s z => by rw [← r.len]; exact z a vs (.inl (s _ _ e))
theorem TupAt.size {H' : Hp} {a : Addr} {vs : List V} (e : TupAt K F a vs) (s : Same F H') (z : Sized H') : vs.length ≤ sizeLine := z a vs (.inr (s _ _ e))
theorem itOk_tup {ds : List D} {a : Addr} {vs : List V} (e : TupAt K F a vs) (r : Reps K g F ds vs) : ItOk K g F ds (Itt K a) where
  go := fun i F' H' S d hd s1 s2 pn => by
    obtain ⟨v, hv, rv⟩ := r.get hd
    have h : SqT K H' a vs := TupAt.sq (s1.trans s2) e
    refine ⟨⟨vs, v, h, hv⟩, fun x H'' y => ?_⟩
    obtain ⟨rfl, y⟩ := y
    have := y vs h
    rw [hv] at this; cases this
    exact ⟨F', Fwd.refl s2 pn, Rep.mono s1 d _ rv⟩
  stop := fun H' s => ⟨vs, TupAt.sq s e, by rw [r.len]; exact Nat.le_refl _⟩
  size := fun H' s z => by rw [← r.len]; exact e.size s z
theorem range_get {lo hi : Int} {i : Nat} {d : D} (h : (rangeD lo hi)[i]? = some d) : d = .int (lo + i) ∧ i < (hi - lo).toNat := by
  unfold rangeD at h
  rw [List.getElem?_map] at h
  cases e : (List.range (hi - lo).toNat)[i]? with
  | none =>
        rw [e] at h; cases h
  | some j =>
    rw [e] at h; cases h
    have h1 := List.getElem?_eq_some_iff.mp e
    obtain ⟨h2, h3⟩ := h1
    rw [List.getElem_range] at h3
    subst h3
    exact ⟨rfl, by simpa using h2⟩
theorem range_len (lo hi : Int) : (rangeD lo hi).length = (hi - lo).toNat := by unfold rangeD; simp
theorem itOk_rng {lo hi : Int} (hz : (hi - lo).toNat ≤ sizeLine) : ItOk K g F (rangeD lo hi) (Itr lo (hi - lo).toNat) where
  go := fun i F' H' S d hd s1 s2 pn => by
    obtain ⟨rfl, hlt⟩ := range_get hd
    refine ⟨hlt, fun x H'' y => ?_⟩
    obtain ⟨rfl, rfl⟩ := y
    exact ⟨F', Fwd.refl s2 pn, rep_int⟩
  stop := fun H' s => by rw [range_len]; exact Nat.le_refl _
  size := fun H' s z => by rw [range_len]; exact hz
/-- a sequence of plain data -/
theorem seq_of {d : D} {v : V} {ds : List D} (r : Rep K g F d v) (h : seqD d = some ds) : ∃ (k : Bool) (a : Addr) (vs : List V), v = .ref a ∧ Reps K g F ds vs ∧ (∀ H', Same F H' → SqK k K H' a vs) ∧ (∀ H', Same F H' → Sized H' → vs.length ≤ sizeLine) ∧ (k = true → F a = some (.lst vs)) ∧ (k = false → TupAt K F a vs) := by
  cases d <;> simp only [seqD] at h <;> (try (cases h; done)) <;> cases h <;> simp only [Rep] at r <;> obtain ⟨a, vs, rfl, q, rs⟩ := r
  · exact ⟨false, a, vs, rfl, rs, fun H' s => TupAt.sq s q, fun H' s z => q.size s z, (fun z => nomatch z), fun _ => q⟩
  · exact ⟨true, a, vs, rfl, rs, fun H' s => SqL.of (s _ _ q), fun H' s z => z a vs (.inl (s _ _ q)), fun _ => q, (fun z => nomatch z)⟩
theorem zip_get : ∀ {xs ys : List D} {i : Nat} {d : D}, (zipD xs ys)[i]? = some d → ∃ a b, xs[i]? = some a ∧ ys[i]? = some b ∧ d = .tup [a, b]
  | [], ys, i, d, h => by simp [zipD] at h
  | x :: xs, [], i, d, h => by simp [zipD] at h
  | x :: xs, y :: ys, 0, d, h => by simp [zipD] at h; exact ⟨x, y, rfl, rfl, h.symm⟩
  | x :: xs, y :: ys, i + 1, d, h => by
    simp only [zipD, List.getElem?_cons_succ] at h
    obtain ⟨a, b, h1, h2, h3⟩ := zip_get h
    exact ⟨a, b, by simpa using h1, by simpa using h2, h3⟩
theorem zip_len : ∀ (xs ys : List D), (zipD xs ys).length ≤ xs.length ∧ (zipD xs ys).length ≤ ys.length ∧ ((zipD xs ys).length = xs.length ∨ (zipD xs ys).length = ys.length)
  | [], ys => by simp [zipD]
  | x :: xs, [] => by simp [zipD]
  | x :: xs, y :: ys => by
    obtain ⟨h1, h2, h3⟩ := zip_len xs ys
    simp only [zipD, List.length_cons]
    omega
theorem itOk_zip {xs ys : List D} {k1 k2 : Bool} {a b : Addr} {vs ws : List V} (r1 : Reps K g F xs vs) (r2 : Reps K g F ys ws) (q1 : ∀ H', Same F H' → SqK k1 K H' a vs) (q2 : ∀ H', Same F H' → SqK k2 K H' b ws)
    (z1 : ∀ H', Same F H' → Sized H' → vs.length ≤ sizeLine) : ItOk K g F (zipD xs ys) (ItzM K k1 k2 a b) where
  go := fun i F' H' S d hd s1 s2 pn => by
    obtain ⟨da, db, ha, hb, rfl⟩ := zip_get hd
    obtain ⟨v, hv, rv⟩ := r1.get ha
    obtain ⟨w, hw, rw'⟩ := r2.get hb
    have Q1 := q1 H' (s1.trans s2)
    have Q2 := q2 H' (s1.trans s2)
    refine ⟨⟨vs, ws, v, w, Q1, Q2, hv, hw⟩, fun x H'' y => ?_⟩
    obtain ⟨T, x', y', rfl, hT, rfl, h1, h2⟩ := y
    have e1 := h1 vs Q1
    have e2 := h2 ws Q2
    rw [hv] at e1; cases e1
    rw [hw] at e2; cases e2
    have f : Fwd g F' H' (upd F' T (.tup [v, w])) (upd H' T (.tup [v, w])) S := Fwd.new s2 pn hT (fun _ z => nomatch z)
    refine ⟨_, f, ?_⟩
    simp only [Rep]
    exact ⟨T, [v, w], rfl, upd_same, Reps.cons (f.to (Rep.mono s1 _ _ rv)) (Reps.one (f.to (Rep.mono s1 _ _ rw')))⟩
  stop := fun H' s => by
    obtain ⟨h1, h2, h3⟩ := zip_len xs ys
    exact ⟨vs, ws, q1 H' s, q2 H' s, by rw [r1.len]; exact h1, by rw [r2.len]; exact h2, by rw [r1.len, r2.len]; exact h3⟩
  size := fun H' s z => by
    have := z1 H' s z
    rw [r1.len] at this
    exact Nat.le_trans (zip_len xs ys).1 this
theorem enum_get : ∀ {ds : List D} {i k : Nat} {d : D}, (enumD k ds)[i]? = some d → ∃ e, ds[i]? = some e ∧ d = .tup [.int ((k + i : Nat) : Int), e]
  | [], i, k, d, h => by simp [enumD] at h
  | x :: ds, 0, k, d, h => by simp [enumD] at h; exact ⟨x, rfl, by rw [← h]; simp⟩
  | x :: ds, i + 1, k, d, h => by
    simp only [enumD, List.getElem?_cons_succ] at h
    obtain ⟨e, h1, h2⟩ := enum_get h
    refine ⟨e, by simpa using h1, ?_⟩
    rw [h2]
    have : k + 1 + i = k + (i + 1) := by omega
    rw [this]
theorem enum_len : ∀ (k : Nat) (ds : List D), (enumD k ds).length = ds.length
  | k, [] => rfl
  | k, d :: ds => by simp [enumD, enum_len (k + 1) ds]
theorem itOk_enum {xs : List D} {k : Bool} {a : Addr} {vs : List V} (r1 : Reps K g F xs vs) (q1 : ∀ H', Same F H' → SqK k K H' a vs) (z1 : ∀ H', Same F H' → Sized H' → vs.length ≤ sizeLine) : ItOk K g F (enumD 0 xs) (IteM K k a) where
  go := fun i F' H' S d hd s1 s2 pn => by
    obtain ⟨da, ha, rfl⟩ := enum_get hd
    obtain ⟨v, hv, rv⟩ := r1.get ha
    have Q1 := q1 H' (s1.trans s2)
    refine ⟨⟨vs, v, Q1, hv⟩, fun x H'' y => ?_⟩
    obtain ⟨T, x', rfl, hT, rfl, h1⟩ := y
    have e1 := h1 vs Q1
    rw [hv] at e1; cases e1
    have f : Fwd g F' H' (upd F' T (.tup [.int (i : Nat), v])) (upd H' T (.tup [.int (i : Nat), v])) S := Fwd.new s2 pn hT (fun _ z => nomatch z)
    refine ⟨_, f, ?_⟩
    simp only [Rep]
    refine ⟨T, _, rfl, upd_same, Reps.cons ?_ (Reps.one (f.to (Rep.mono s1 _ _ rv)))⟩
    rw [Nat.zero_add]
    exact rep_int
  stop := fun H' s => ⟨vs, q1 H' s, by rw [enum_len, r1.len]⟩
  size := fun H' s z => by
    have := z1 H' s z
    rw [r1.len] at this
    rw [enum_len]; exact this
end
section
variable {X : Cx} {g : G} {E : XK} {tg : Expr}
def iAny (K : PySem.W.Frag) (tl : TE) : TI := fun σ H R => tl σ H fun x H1 => ∃ a xs, x = .ref a ∧ ((SqL K H1 a xs ∧ R (Itl K a) H1) ∨ (SqT K H1 a xs ∧ R (Itt K a) H1))
theorem pi_any {l : Expr} {tl : TE} (hl : PE X l tl) : PI X tg l (iAny X.K tl) := by
  refine
      ⟨fun pins s σ H R I h => ?_⟩
  refine
      thn (hl.run pins s σ H _ I h) fun v s1 ⟨x, H1, I1, r1, q1⟩ => ?_
  obtain ⟨a, xs, e, q⟩ := q1
  subst e
  cases r1
  have fp : ∀ b ∈ [s1.heap.objs.size], FpOk X pins H1 b := fun b hb => by
    have
        e : b = s1.heap.objs.size := by simpa using hb
    subst e
    exact
        I1.fpOk (Nat.le_refl _) (I1.hok.fresh (Nat.le_refl _))
  rcases
      q with ⟨hq, q⟩ | ⟨hq, q⟩
  · obtain ⟨its, rv, p, hz⟩ := I1.list hq
    refine
        wpAny_pyIter_list p.isList ?_
    exact ⟨s1.heap.objs.size, [s1.heap.objs.size], _, _, H1, rfl, I1.kept (t' := s1.toks) fun b o e => Heap.get?_push_of_some _ e, turn_list a _, ⟨_, Heap.get?_push_size _ rfl, rfl, rfl⟩, fp, q⟩
  · obtain ⟨its, rv, p, hz⟩ := I1.tuple hq
    refine
        wpAny_pyIter_tuple (show s1.heap.IsTuple a its.toArray from p) ?_
    exact ⟨s1.heap.objs.size, [s1.heap.objs.size], _, _, H1, rfl, I1.kept (t' := s1.toks) fun b o e => Heap.get?_push_of_some _ e, turn_tuple a _, ⟨_, Heap.get?_push_size _ rfl, rfl, rfl⟩, fp, q⟩
theorem pdi_seq {e : Expr} {f : List (Option D) → M D} (h : PD X g E e f) : PDI X g E tg e (fun ρ => bnd (f ρ) fun x => ofO (seqD x)) := by
  refine PI.weak (pi_any h) fun σ H R h => ?_
  obtain ⟨F, ρ, S, st, p⟩ := h
  refine ⟨F, ρ, S, st, (p.bind (RepD X.K g)).imp ?_⟩
  rintro x H1 ⟨dx, F1, S1, f1, r1, p⟩
  obtain ⟨ds, e, q⟩ := p.ofO
  obtain ⟨k, a, vs, rfl, rs, _, _, kt, kf⟩ := seq_of r1 e
  refine ⟨a, vs, rfl, ?_⟩
  cases k with
  | true => exact .inl ⟨SqL.of (f1.fh _ _ (kt rfl)), q F1 H1 _ (Fwd.refl f1.fh f1.pn) (itOk_list (kt rfl) rs)⟩
  | false => exact .inr ⟨TupAt.sq f1.fh (kf rfl), q F1 H1 _ (Fwd.refl f1.fh f1.pn) (itOk_tup (kf rfl) rs)⟩
theorem inR_of {j : Int} (h : inR j = true) : -(2 ^ 62) ≤ j ∧ j < 2 ^ 62 := by
  unfold inR at h
  simpa using h
theorem rng1_of {x : D} {ds : List D} (h : rng1D x = some ds) : ∃ j, x = .int j ∧ inR j = true ∧ j ≤ sizeLine ∧ ds = rangeD 0 j := by
  cases x <;> simp only [rng1D] at h <;> (try (cases h; done))
  obtain ⟨c, rfl⟩ := ofIf h
  exact ⟨_, rfl, c.1, c.2, rfl⟩
theorem rng2_of {x y : D} {ds : List D} (h : rng2D x y = some ds) : ∃ i j, x = .int i ∧ y = .int j ∧ inR i = true ∧ inR j = true ∧ j - i ≤ sizeLine ∧ ds = rangeD i j := by
  cases x <;> cases y <;> simp only [rng2D] at h <;> (try (cases h; done))
  obtain ⟨c, rfl⟩ := ofIf h
  exact ⟨_, _, rfl, rfl, c.1, c.2.1, c.2.2, rfl⟩
theorem pdi_rng1 {a : Expr} {f : List (Option D) → M D} {p pos : Pos} (hg : Gl X "range") (hm : X.mg "range" = none) (h : PD X g E a f) (hs : starEach [a] X.env = [(false, eval a X.env)]) :
    PDI X g E tg (.Call (.Name "range" p) [a] [] pos) (fun ρ => bnd (f ρ) fun x => ofO (rng1D x)) := by
  refine PI.weak (pi_range1 hg hm (pa_cons h pa_nil hs) hs) fun σ H R h => ?_
  obtain ⟨F, ρ, S, st, p⟩ := h
  refine ⟨F, ρ, S, st, (p.bind (RepD X.K g)).imp ?_⟩
  rintro x H1 ⟨dx, F1, S1, f1, r1, p⟩
  obtain ⟨ds, e, q⟩ := p.ofO
  obtain ⟨j, rfl, c1, c2, rfl⟩ := rng1_of e
  have r1 : Rep X.K g F1 (.int j) x := r1
  simp only [Rep] at r1
  subst r1
  have c1 := inR_of c1
  refine ⟨j, rfl, c1.1, c1.2, ?_⟩
  have := q F1 H1 (Itr 0 (j - 0).toNat) (Fwd.refl f1.fh f1.pn) (itOk_rng (by omega))
  rwa [Int.sub_zero] at this
theorem pdi_rng2 {a b : Expr} {fa fb : List (Option D) → M D} {p pos : Pos} (hg : Gl X "range") (hm : X.mg "range" = none) (ha : PD X g E a fa) (hb : PD X g E b fb) (hs : starEach [a, b] X.env = [(false, eval a X.env), (false, eval b X.env)]) (hs2 : starEach [b] X.env = [(false, eval b X.env)]) :
    PDI X g E tg (.Call (.Name "range" p) [a, b] [] pos) (fun ρ => bnd (fa ρ) fun x => bnd (fb ρ) fun y => ofO (rng2D x y)) := by
  refine PI.weak (pi_range2 hg hm (pa_cons ha (pa_cons hb pa_nil hs2) (by rw [hs, hs2])) hs hs2) fun σ H R h => ?_
  obtain ⟨F, ρ, S, st, p⟩ := h
  refine ⟨F, ρ, S, st, (p.bind (RepD X.K g)).imp ?_⟩
  rintro x H1 ⟨dx, F1, S1, f1, r1, p⟩
  refine ⟨F1, ρ, S1, st.fwd f1, (p.bind (RepD X.K g)).imp ?_⟩
  rintro y H2 ⟨dy, F2, S2, f2, r2, p⟩
  obtain ⟨ds, e, q⟩ := p.ofO
  obtain ⟨i, j, rfl, rfl, c1, c2, c3, rfl⟩ := rng2_of e
  have r1 : Rep X.K g F1 (.int i) x := r1
  have r2 : Rep X.K g F2 (.int j) y := r2
  simp only [Rep] at r1 r2
  subst r1 r2
  have c1 := inR_of c1
  have c2 := inR_of c2
  exact ⟨i, j, rfl, ⟨c1.1, c1.2, c2.1, c2.2⟩, q F2 H2 _ (Fwd.refl f2.fh f2.pn) (itOk_rng (by omega))⟩
theorem pdi_zip {a b : Expr} {elts : List Expr} {kk : Nat} {tpos : Pos} {fa fb : List (Option D) → M D} {p pos : Pos} (hg : Gl X "zip") (hm : X.mg "zip" = none) (ha : PD X g E a fa) (hb : PD X g E b fb) (hs : starEach [a, b] X.env = (false, eval a X.env) :: starEach [b] X.env) (hs2 : starEach [b] X.env = [(false, eval b X.env)]) :
    PDI X g E (.Tuple elts kk tpos) (.Call (.Name "zip" p) [a, b] [] pos) (fun ρ => bnd (fa ρ) fun x => bnd (fb ρ) fun y => ofO ((seqD x).bind fun xs => (seqD y).map fun ys => zipD xs ys)) := by
  refine PI.weak (pi_zipM hg hm (pa_cons ha (pa_cons hb pa_nil hs2) hs) hs (by rw [hs2]; rfl)) fun σ H R h => ?_
  obtain ⟨F, ρ, S, st, p⟩ := h
  refine ⟨F, ρ, S, st, (p.bind (RepD X.K g)).imp ?_⟩
  rintro x H1 ⟨dx, F1, S1, f1, r1, p⟩
  refine ⟨F1, ρ, S1, st.fwd f1, (p.bind (RepD X.K g)).imp ?_⟩
  rintro y H2 ⟨dy, F2, S2, f2, r2, p⟩
  obtain ⟨ds, e, q⟩ := p.ofO
  cases e1 : seqD dx with
  | none => rw [e1] at e; cases e
  | some xs =>
    rw [e1] at e
    cases e2 : seqD dy with
    | none => rw [e2] at e; cases e
    | some ys =>
      rw [e2] at e; cases e
      obtain ⟨k1, a1, vs, rfl, rs1, q1, z1, _, _⟩ := seq_of (f2.to r1) e1
      obtain ⟨k2, a2, ws, rfl, rs2, q2, z2, _, _⟩ := seq_of r2 e2
      exact ⟨k1, k2, a1, a2, vs, ws, rfl, q1 _ f2.fh, q2 _ f2.fh, q F2 H2 _ (Fwd.refl f2.fh f2.pn) (itOk_zip rs1 rs2 q1 q2 z1)⟩
theorem pdi_enum {a : Expr} {elts : List Expr} {kk : Nat} {tpos : Pos} {fa : List (Option D) → M D} {p pos : Pos} (hg : Gl X "enumerate") (hm : X.mg "enumerate" = none) (ha : PD X g E a fa) (hs : starEach [a] X.env = [(false, eval a X.env)]) :
    PDI X g E (.Tuple elts kk tpos) (.Call (.Name "enumerate" p) [a] [] pos) (fun ρ => bnd (fa ρ) fun x => ofO ((seqD x).map (enumD 0))) := by
  refine PI.weak (pi_enumM hg hm (pa_cons ha pa_nil hs) hs) fun σ H R h => ?_
  obtain ⟨F, ρ, S, st, p⟩ := h
  refine ⟨F, ρ, S, st, (p.bind (RepD X.K g)).imp ?_⟩
  rintro x H1 ⟨dx, F1, S1, f1, r1, p⟩
  obtain ⟨ds, e, q⟩ := p.ofO
  cases e1 : seqD dx with
  | none => rw [e1] at e; cases e
  | some xs =>
    rw [e1] at e; cases e
    obtain ⟨k1, a1, vs, rfl, rs1, q1, z1, _, _⟩ := seq_of r1 e1
    exact ⟨k1, a1, vs, rfl, q1 _ f1.fh, q F1 H1 _ (Fwd.refl f1.fh f1.pn) (itOk_enum rs1 q1 z1)⟩
end
end Pur

/-! Pur8: targets, comprehensions, subscripts. -/
namespace Pur
open
    PySem PySem.Spec PyProof.Rows L2
/-! ### targets -/
def SlotsBut (l : List Nat) (σ σ' : L2.St) : Prop := σ'.length = σ.length ∧ ∀ i, i ∉ l → σ'[i]? = σ[i]?
def tG (K : PySem.W.Frag) (g : G) (t : CT) : TG := fun v σ H Q => ∃ F ρ S d ρ', Stt K g F H σ ρ S ∧ Rep K g F d v ∧ bindT t d ρ = some ρ' ∧ ∀ σ', Stt K g F H σ' ρ' S → SlotsBut (tslots t) σ σ' → Q σ' H
def tGs (K : PySem.W.Frag) (g : G) (t : List CT) : TGs := fun vs σ H Q => ∃ F ρ S ds ρ', Stt K g F H σ ρ S ∧ Reps K g F ds vs ∧ bindTs t ds ρ = some ρ' ∧ ∀ σ', Stt K g F H σ' ρ' S → SlotsBut (tslotss t) σ σ' → Q σ' H
/-- the scope's own names may be stored -/
def TgOk (X : Cx) (sc0 : Scope) : Prop := ∀ x, locN sc0 x = true → Loc X.env.scope x ∧ (X.fn x = true ∨ X.env.scope.names.lookup x = some .local)
section
variable {X : Cx} {g : G} {E : XK}
theorem PG.weak {tg : Expr} {t t' : TG} (h : PG X tg t) (w : ∀ v σ H Q, t' v σ H Q → t v σ H Q) : PG X tg t' := ⟨fun pins s σ H v u Q I r q => h.run pins s σ H v u Q I r (w _ _ _ _ q)⟩
theorem PGs.weak {tg : List Expr} {t t' : TGs} (h : PGs X tg t) (w : ∀ v σ H Q, t' v σ H Q → t v σ H Q) : PGs X tg t' := ⟨fun pins s σ H v u Q I r q => h.run pins s σ H v u Q I r (w _ _ _ _ q)⟩
theorem Stt.set {K : PySem.W.Frag} {F H : Hp} {σ : L2.St} {ρ : List (Option D)} {S : Pn} {i : Nat} {d : D} {v : V} (st : Stt K g F H σ ρ S) (r : Rep K g F d v) (hi : i < ρ.length) : Stt K g F H (σ.set i (some v)) (ρ.set i (some d)) S where
  fh := st.fh
  pn := st.pn
  len := by rw [List.length_set, List.length_set]; exact st.len
  env := fun j e hj => by
    by_cases h : i = j
    · subst h
      rw [List.getElem?_set_self hi] at hj
      cases hj
      exact ⟨v, List.getElem?_set_self (by rw [← st.len]; exact hi), r⟩
    · rw [List.getElem?_set_ne h] at hj
      obtain ⟨w, hw, rw'⟩ := st.env j e hj
      exact ⟨w, by rw [List.getElem?_set_ne h]; exact hw, rw'⟩
theorem pg_v {N : List Str} {sc0 : Scope} {x : Str} {i : Nat} {pos : Pos} (hN : X.N.Nodup) (hi : X.N[i]? = some x) (ok : TgOk X sc0) (hl : locN sc0 x = true) : PG X (.Name x pos) (tG X.K g (.v i)) := by
  obtain ⟨h1, h2⟩ := ok x hl
  refine PG.weak (pg_name hN hi h1 h2) fun v σ H Q h => ?_
  obtain ⟨F, ρ, S, d, ρ', st, r, e, q⟩ := h
  simp only [bindT] at e
  obtain ⟨c, rfl⟩ := ofIf e
  refine q _ (st.set r c) ⟨by rw [List.length_set], fun j hj => ?_⟩
  rw [List.getElem?_set_ne]
  intro z
  subst z
  exact hj (by simp [tslots])
theorem SlotsBut.trans {l m : List Nat} {a b c : L2.St} (h : SlotsBut l a b) (k : SlotsBut m b c) : SlotsBut (l ++ m) a c :=
  ⟨k.1.trans h.1, fun i hi => by
    simp only [List.mem_append, not_or] at hi
    exact (k.2 i hi.2).trans (h.2 i hi.1)⟩
theorem assignEach_name {x : Str} {p : Pos} {es : List Expr} {env : Env} : (assignEach (.Name x p :: es) env) = (false, assign (.Name x p) env) :: assignEach es env := rfl
theorem assignEach_tuple {l : List Expr} {k : Nat} {p : Pos} {es : List Expr} {env : Env} : (assignEach (.Tuple l k p :: es) env) = (false, assign (.Tuple l k p) env) :: assignEach es env := rfl
mutual
theorem pg_of {sc0 : Scope} (hN : X.N.Nodup) (hc : X.calm = true) (ok : TgOk X sc0) : ∀ (e : Expr) (t : CT), cT X.N sc0 e = some t → PG X e (tG X.K g t) ∧ ∀ es, assignEach (e :: es) X.env = (false, assign e X.env) :: assignEach es X.env
  | .Name x p, t, h => by
    simp only [cT] at h
    obtain ⟨c, h⟩ : locN sc0 x = true ∧ (slotN X.N x).map CT.v = some t := by
      by_cases c : locN sc0 x = true
      · rw [if_pos c] at h; exact ⟨c, h⟩
      · rw [if_neg c] at h; cases h
    cases z : slotN X.N x with
    | none => rw [z] at h; cases h
    | some i =>
      rw [z] at h; cases h
      exact ⟨pg_v (N := X.N) hN (slot_at z) ok c, fun _ => rfl⟩
  | .Tuple es k p, t, h => by
    simp only [cT] at h
    cases z : cTs X.N sc0 es with
    | none => rw [z] at h; cases h
    | some l =>
      rw [z] at h; cases h
      obtain ⟨h1, h2, h3, h4⟩ := pgs_of hN hc ok es l z
      refine ⟨PG.weak (pg_tup (n := es.length) hc h1 h2 h3) fun v σ H Q q => ?_, fun _ => rfl⟩
      obtain ⟨F, ρ, S, d, ρ', st, r, e, q⟩ := q
      cases d <;> simp only [bindT] at e <;> (try (cases e; done))
      rename_i ds
      simp only [Rep] at r
      obtain ⟨a, vs, rfl, hq, rs⟩ := r
      refine ⟨a, vs, rfl, TupAt.sq st.fh hq, ?_, F, ρ, S, ds, ρ', st, rs, e, q⟩
      rw [rs.len]
      exact h4 ds ρ ρ' e
  | .BoolOp _ _ _, t, h | .NamedExpr _ _ _, t, h | .BinOp _ _ _ _, t, h | .UnaryOp _ _ _, t, h | .Lambda _ _ _ _, t, h | .IfExp _ _ _ _, t, h | .Dict _ _ _, t, h | .Set _ _ _, t, h
  | .ListComp _ _ _ _, t, h | .SetComp _ _ _ _, t, h | .DictComp _ _ _ _ _, t, h | .GeneratorExp _ _ _ _, t, h | .Await _ _, t, h | .Yield _ _, t, h | .YieldFrom _ _, t, h | .Compare _ _ _ _, t, h
  | .Call _ _ _ _, t, h | .FormattedValue _ _ _ _, t, h | .JoinedStr _ _, t, h | .Constant _ _ _, t, h | .Attribute _ _ _, t, h | .Subscript _ _ _, t, h | .Starred _ _, t, h | .List _ _, t, h | .Slice _ _ _ _, t, h => by
    simp only [cT] at h; cases h
theorem pgs_of {sc0 : Scope} (hN : X.N.Nodup) (hc : X.calm = true) (ok : TgOk X sc0) : ∀ (es : List Expr) (l : List CT), cTs X.N sc0 es = some l →
    PGs X es (tGs X.K g l) ∧ (assignEach es X.env).length = es.length ∧ (assignEach es X.env).findIdx? (·.1) = none ∧ ∀ ds ρ ρ', bindTs l ds ρ = some ρ' → ds.length = es.length
  | [], l, h => by
    simp only [cTs] at h
    cases h
    refine ⟨PGs.weak pgs_nil fun vs σ H Q q => ?_, rfl, rfl, fun ds ρ ρ' e => ?_⟩
    · obtain ⟨F, ρ, S, ds, ρ', st, r, e, q⟩ := q
      cases ds <;> simp only [bindTs] at e <;> (try (cases e; done))
      cases e
      simp only [Reps] at r
      exact ⟨r, q σ st ⟨rfl, fun _ _ => rfl⟩⟩
    · cases ds <;> simp only [bindTs] at e <;> (try (cases e; done))
      rfl
  | e :: es, l, h => by
    simp only [cTs] at h
    cases z : cT X.N sc0 e with
    | none => rw [z] at h; cases h
    | some t =>
      rw [z] at h
      cases z2 : cTs X.N sc0 es with
      | none => simp [z2] at h
      | some l' =>
        simp [z2] at h
        subst h
        obtain ⟨g1, g2⟩ := pg_of hN hc ok e t z
        obtain ⟨h1, h2, h3, h4⟩ := pgs_of hN hc ok es l' z2
        refine ⟨PGs.weak (pgs_cons g1 h1 (by rw [g2]; rfl)) fun vs σ H Q q => ?_, by rw [g2, List.length_cons, List.length_cons, h2], by rw [g2, List.findIdx?_cons]; simp [h3], fun ds ρ ρ' e => ?_⟩
        · obtain ⟨F, ρ, S, ds, ρ', st, r, e, q⟩ := q
          cases ds <;> simp only [bindTs] at e <;> (try (cases e; done))
          rename_i d ds
          simp only [Reps] at r
          obtain ⟨v, r', rfl, rd, rs⟩ := r
          cases z3 : bindT t d ρ with
          | none => rw [z3] at e; cases e
          | some ρ1 =>
            rw [z3] at e
            refine ⟨v, r', rfl, F, ρ, S, d, ρ1, st, rd, z3, fun σ1 st1 b1 => ?_⟩
            refine ⟨F, ρ1, S, ds, ρ', st1, rs, e, fun σ2 st2 b2 => q σ2 st2 ?_⟩
            exact b1.trans b2
        · cases ds <;> simp only [bindTs] at e <;> (try (cases e; done))
          rename_i d ds
          cases z3 : bindT t d ρ with
          | none => rw [z3] at e; cases e
          | some ρ1 =>
            rw [z3] at e
            rw [List.length_cons, List.length_cons, h4 ds ρ1 ρ' e]
end

/-! ### comprehensions -/
theorem wipeD_len (ρ : List (Option D)) : ∀ l, (wipeD ρ l).length = ρ.length
  | [] => rfl
  | v :: vs => by rw [wipeD, List.length_set, wipeD_len ρ vs]
theorem wipeD_some {ρ : List (Option D)} {i : Nat} {x : D} : ∀ {vs : List Nat}, (wipeD ρ vs)[i]? = some (some x) → ρ[i]? = some (some x) ∧ i ∉ vs
  | [], h => ⟨h, by simp⟩
  | v :: vs, h => by
    unfold wipeD at h
    by_cases hi : v = i
    · subst hi
      by_cases hv : v < (wipeD ρ vs).length
      · rw
            [List.getElem?_set_self hv] at h; cases h
      · rw
            [List.getElem?_eq_none (by simpa using hv)] at h; cases h
    · rw
          [List.getElem?_set_ne hi] at h
      obtain ⟨h1, h2⟩ := wipeD_some h
      exact
          ⟨h1, by simp only [List.mem_cons, not_or]; exact ⟨fun e => hi e.symm, h2⟩⟩
theorem wipe_get {σ : L2.St} {i : Nat} : ∀ {vs : List Nat}, i ∉ vs → (wipe σ vs)[i]? = σ[i]?
  | [], _ => rfl
  | v :: vs, h => by
    simp only [List.mem_cons, not_or] at h
    unfold wipe
    rw [List.getElem?_set_ne (fun e => h.1 e.symm), wipe_get h.2]
theorem wipe_in {σ : L2.St} {i : Nat} : ∀ {vs : List Nat}, i ∈ vs → i < σ.length → (wipe σ vs)[i]? = some none
  | v :: vs, h, hl => by
    unfold wipe
    by_cases e : v = i
    · subst e
      exact List.getElem?_set_self (by rw [wipe_length]; exact hl)
    · rw [List.getElem?_set_ne e]
      rcases
          List.mem_cons.mp h with q | q
      · exact absurd q.symm e
      · exact wipe_in q hl
theorem wipe_but {l vs : List Nat} {σ σ' : L2.St} (h : SlotsBut l σ σ') (hs : ∀ i ∈ l, i ∈ vs) : wipe σ' vs = wipe σ vs := by
  apply List.ext_getElem?
  intro i
  by_cases hi : i ∈ vs
  · by_cases hl : i < σ.length
    · rw [wipe_in hi hl, wipe_in hi (by rw [h.1]; exact hl)]
    · rw [List.getElem?_eq_none (by rw [wipe_length, h.1]; omega), List.getElem?_eq_none (by rw [wipe_length]; omega)]
  · rw [wipe_get hi, wipe_get hi, h.2 i fun z => hi (hs i z)]
theorem wipe_wipe {l vs : List Nat} {σ : L2.St} (hs : ∀ i ∈ l, i ∈ vs) : wipe (wipe σ l) vs = wipe σ vs := by
  apply List.ext_getElem?
  intro i
  by_cases hi : i ∈ vs
  · by_cases hl : i < σ.length
    · rw [wipe_in hi hl, wipe_in hi (by rw [wipe_length]; exact hl)]
    · rw [List.getElem?_eq_none (by rw [wipe_length, wipe_length]; omega), List.getElem?_eq_none (by rw [wipe_length]; omega)]
  · rw [wipe_get hi, wipe_get hi, wipe_get fun z => hi (hs i z)]
theorem Stt.wipe {K : PySem.W.Frag} {F H : Hp} {σ : L2.St} {ρ : List (Option D)} {S : Pn} (st : Stt K g F H σ ρ S) (vs : List Nat) : Stt K g F H (L2.wipe σ vs) (wipeD ρ vs) S where
  fh := st.fh
  pn := st.pn
  len := by rw [wipe_length, wipeD_len]; exact st.len
  env := fun i d h => by
    obtain ⟨h1, h2⟩ := wipeD_some h
    obtain ⟨v, hv, r⟩ := st.env i d h1
    exact ⟨v, by rw [wipe_get h2]; exact hv, r⟩
def lcBody (own : List Nat) (t : CT) (fts : List (Option D) → M Bool) (fe : List (Option D) → M D) (ρ : List (Option D)) : D → M (Option D) := fun d =>
  bnd (ofO (bindT t d (wipeD ρ own))) fun ρ' => bnd (fts ρ') fun c => if c = true then bnd (fe ρ') fun x => ret (some x) else ret none
def app (acc : List D) : Option D → List D
  | some x => acc ++ [x]
  | none => acc
theorem bnd_ok {α β : Type} {m : M α} {k : α → M β} {S S' : Pn} {b : β} (h : bnd m k S = .ok b S') : ∃ a S1, m S = .ok a S1 ∧ k a S1 = .ok b S' := by
  unfold bnd at h
  cases e : m S with
  | ok a S1 => rw [e] at h; exact ⟨a, S1, rfl, h⟩
  | exc c fs S1 => rw [e] at h; cases h
  | stuck => rw [e] at h; cases h
theorem ofO_ok {α : Type} {o : Option α} {a : α} {S S' : Pn} (h : ofO o S = .ok a S') : o = some a ∧ S = S' := by
  cases o with
  | none => cases h
  | some b => cases h; exact ⟨rfl, rfl⟩
theorem noX_ok {α β : Type} {K : PySem.W.Frag} {F H : Hp} {Rel : Hp → α → β → Prop} {Q : β → Hp → Prop} {γ : Type} {m : M γ} {k : γ → M α} {S : Pn} (h : Post K g E F H (bnd (noX m) k S) Rel Q) : ∃ a S1, m S = .ok a S1 ∧ Post K g E F H (k a S1) Rel Q := by
  unfold bnd noX at h
  cases e : m S with
  | ok a S1 => rw [e] at h; exact ⟨a, S1, rfl, h⟩
  | exc c fs S1 => rw [e] at h; exact h.elim
  | stuck => rw [e] at h; exact h.elim
theorem compGo_step {body : D → M (Option D)} {d : D} {ds acc out : List D} {S S' : Pn} (h : compGo body (d :: ds) acc S = .ok out S') : ∃ r S1, body d S = .ok r S1 ∧ compGo body ds (app acc r) S1 = .ok out S' := by
  unfold compGo at h
  obtain ⟨r, S1, h1, h2⟩ := bnd_ok h
  exact ⟨r, S1, h1, by cases r <;> exact h2⟩
/-- in the midst: what stands at D, what is still to come -/
structure LcInv (K : PySem.W.Frag) (g : G) (body : D → M (Option D)) (ds : List D) (out : List D) (S' : Pn) (F1 H1 : Hp) (Dd : Addr) (i : Nat) (H : Hp) : Prop where
  ex : ∃ F2 S2 outs acc, Fwd g F1 H1 F2 H S2 ∧ H Dd = some (.lst acc) ∧ F2 Dd = none ∧ Reps K g F2 outs acc ∧ outs.length ≤ i ∧ compGo body (ds.drop i) outs S2 = .ok out S'
/-- the test, the element, the new item: one turn behind the target -/
theorem lc_turn {X : Cx} {F1 H1 F3 H3 : Hp} {Dd : Addr} {fts : List (Option D) → M Bool} {fe : List (Option D) → M D} {σ2 : L2.St} {ρ' : List (Option D)} {S2 S1 : Pn} {r : Option D} {n i : Nat} {outs : List D} {acc : List V} {Nx : Hp → Prop}
    (hD : H1 Dd = none) (hpa : g.pa ≠ Dd) (hsz : ∀ H', Same F1 H' → Sized H' → n ≤ sizeLine) (hi : i < n) (fw : Fwd g F1 H1 F3 H3 S2) (hDd : H3 Dd = some (.lst acc)) (hF : F3 Dd = none) (ra : Reps X.K g F3 outs acc) (hl : outs.length ≤ i)
    (st : Stt X.K g F3 H3 σ2 ρ' S2) (e : bnd (fts ρ') (fun c => if c = true then bnd (fe ρ') fun x => ret (some x) else ret none) S2 = .ok r S1)
    (nx : ∀ F4 H4 acc', Fwd g F1 H1 F4 H4 S1 → H4 Dd = some (.lst acc') → F4 Dd = none → Reps X.K g F4 (app outs r) acc' → Nx H4) :
    tDB X.K g (fun _ _ _ => False) fts σ2 H3 fun b H4 => if b = true then (fun σ H Q => Sized H → tD X.K g (fun _ _ _ => False) fe σ H Q) σ2 H4 (fun y H5 => ∃ acc, H5 Dd = some (.lst acc) ∧ acc.length < sizeLine ∧ Nx (upd H5 Dd (.lst (acc ++ [y])))) else Nx H4 := by
  obtain ⟨c, Sa, h1, h2⟩ := bnd_ok e
  refine ⟨F3, ρ', S2, st, ?_⟩
  rw [h1]
  intro F4 H4 b f4 eb
  cases eb
  have hpn : Dd ≠ g.pa := Ne.symm hpa
  have d4 : H4 Dd = some (.lst acc) := f4.hh Dd _ hDd hpn (fun _ z => nomatch z)
  have n4 : F4 Dd = none := f4.hf Dd _ (hDd) (fun _ z => nomatch z) (fun _ z => nomatch z) hF
  cases c with
  | false =>
    cases h2
    exact nx F4 H4 acc (fw.trans f4) d4 n4 (f4.tos ra)
  | true =>
    obtain ⟨y, Sb, h3, h4⟩ := bnd_ok (show bnd (fe ρ') (fun x => ret (some x)) Sa = _ from h2)
    cases h4
    intro hz
    refine ⟨F4, ρ', Sa, st.fwd f4, ?_⟩
    rw [h3]
    intro F5 H5 v f5 rv
    have d5 : H5 Dd = some (.lst acc) := f5.hh Dd _ d4 hpn (fun _ z => nomatch z)
    have n5 : F5 Dd = none := f5.hf Dd _ (d4) (fun _ z => nomatch z) (fun _ z => nomatch z) n4
    have hn := hsz H4 ((fw.trans f4).ff.trans f4.fh) hz
    have la := ra.len
    refine ⟨acc, d5, by omega, nx F5 _ (acc ++ [v]) (((fw.trans f4).trans f5).upd' (NT.of hD) n5 hpa (by rw [d5]; exact noTab_lst)) upd_same n5 ?_⟩
    exact ((f4.trans f5).tos ra).app (Reps.one rv)
/-- the comprehension's loop, whatever is wanted of the new list (open at Dd) -/
theorem lc_loop {K : PySem.W.Frag} {σ : L2.St} {ρ : List (Option D)} {F1 H1 : Hp} {S1 S' : Pn} {J : It} {ds out : List D} {own : List Nat} {t : CT} {fts : List (Option D) → M Bool} {fe : List (Option D) → M D} {Q : VK} {X : Cx} (hK : X.K = K)
    (st : Stt X.K g F1 H1 σ ρ S1) (J1 : ItOk X.K g F1 ds J) (hgo : compGo (lcBody own t fts fe ρ) ds [] S1 = .ok out S') (hsub : ∀ i ∈ tslots t, i ∈ own) {Dd : Addr} (hD : H1 Dd = none)
    (fin : ∀ F2 H2 acc, Fwd g F1 H1 F2 H2 S' → H2 Dd = some (.lst acc) → F2 Dd = none → Reps X.K g F2 out acc → Q (.ref Dd) H2) :
    ∃ W : Nat → Nat → Hp → Prop, (∃ m, W 0 m (upd H1 Dd (.lst []))) ∧ ∀ i m H, W i m H →
      (J.stop i H ∧ Q (.ref Dd) H) ∨ (J.go i H ∧ ∃ Nx : Hp → Prop, (∀ H', Nx H' → ∃ m', m' < m ∧ W (i + 1) m' H') ∧ ∀ x H', J.yld i H x H' → tG X.K g t x (wipe σ own) H' fun σ2 H2 => wipe σ2 own = wipe σ own ∧ tDB X.K g (fun _ _ _ => False) fts σ2 H2 fun b H3 =>
        if b = true then (fun σ H Q => Sized H → tD X.K g (fun _ _ _ => False) fe σ H Q) σ2 H3 fun y H4 => ∃ acc, H4 Dd = some (.lst acc) ∧ acc.length < sizeLine ∧ Nx (upd H4 Dd (.lst (acc ++ [y]))) else Nx H3) := by
  have hpa : g.pa ≠ Dd := ne_of_none st.pn.at_ hD
  refine ⟨fun i m H => m = ds.length - i ∧ i ≤ ds.length ∧ LcInv X.K g (lcBody own t fts fe ρ) ds out S' F1 H1 Dd i H, ⟨_, rfl, Nat.zero_le _, ⟨F1, S1, [], [], Fwd.newO st.fh st.pn hD, upd_same, ?_, Reps.nil, Nat.le_refl _, hgo⟩⟩, ?_⟩
  · cases z : F1 Dd with
    | none => rfl
    | some o => rw [st.fh _ _ z] at hD; cases hD
  rintro i m H2 ⟨rfl, hi, ⟨F2, S2, outs, acc, fw, hDd, hF, ra, hl, hgo⟩⟩
  by_cases hlt : i < ds.length
  · right
    have hd : ds[i]? = some ds[i] := List.getElem?_eq_getElem hlt
    obtain ⟨go, yl⟩ := J1.go i F2 H2 S2 ds[i] hd fw.ff fw.fh fw.pn
    rw [List.drop_eq_getElem_cons hlt] at hgo
    obtain ⟨r, S3, hb, hgo⟩ := compGo_step hgo
    refine ⟨go, LcInv X.K g (lcBody own t fts fe ρ) ds out S' F1 H1 Dd (i + 1), fun H' q => ⟨ds.length - (i + 1), by omega, rfl, hlt, q⟩, fun x H' y => ?_⟩
    obtain ⟨F3, f3, rx⟩ := yl x H' y
    unfold lcBody at hb
    obtain ⟨ρ', Sx, hb1, hb2⟩ := bnd_ok hb
    obtain ⟨eb, rfl⟩ := ofO_ok hb1
    refine ⟨F3, wipeD ρ own, S2, ds[i], ρ', ((st.fwd (fw.trans f3)).wipe _), rx, eb, fun σ2 st2 sb => ?_⟩
    refine ⟨(wipe_but sb hsub).trans (wipe_wipe fun i h => h), ?_⟩
    refine lc_turn (X := X) hD hpa J1.size hlt (fw.trans f3) (f3.hh _ _ hDd (Ne.symm hpa) (fun _ z => nomatch z)) (f3.hf _ _ (hDd) (fun _ z => nomatch z) (fun _ z => nomatch z) hF) (f3.tos ra) hl st2 hb2 fun F4 H4 acc' f4 d4 n4 r4 => ⟨F4, S3, app outs r, acc', f4, d4, n4, r4, ?_, hgo⟩
    cases r <;> simp [app] <;> omega
  · left
    have e : i = ds.length := by omega
    subst e
    rw [List.drop_length] at hgo
    cases hgo
    exact ⟨J1.stop H2 (fw.ff.trans fw.fh), fin F2 H2 acc fw hDd hF ra⟩
def fLc (fi : List (Option D) → M (List D)) (own : List Nat) (t : CT) (fts : List (Option D) → M Bool) (fe : List (Option D) → M D) : List (Option D) → M D :=
  fun ρ => bnd (fi ρ) fun ds => bnd (noX (compGo (lcBody own t fts fe ρ) ds [])) fun out => ret (.lst out)
/-- an outcome that is a list, still open -/
def PostO (K : PySem.W.Frag) (g : G) (E : XK) (F H : Hp) (r : Rs D) (Q : VK) : Prop := match r with
  | .ok d S' => ∃ xs, d = .lst xs ∧ ∀ F' H' p vs, Fwd g F H F' H' S' → H' p = some (.lst vs) → F' p = none → NT H p → Reps K g F' xs vs → Q (.ref p) H'
  | .exc c fs S' => ∀ F' H' dx fv, Fwd g F H F' H' S' → H' dx = some (.xd fv) → RepF K g F' fs fv → E (.ref (He.ga K c)) (some dx) H'
  | .stuck => False
def tO (K : PySem.W.Frag) (g : G) (E : XK) (f : List (Option D) → M D) : TE := fun σ H Q => ∃ F ρ S, Stt K g F H σ ρ S ∧ PostO K g E F H (f ρ S) Q
/-- within: an outcome as wanted, then what is left -/
theorem PostO.bind {α γ : Type} {K : PySem.W.Frag} {F H : Hp} {m : M α} {k : α → M D} {S : Pn} {Q : VK} (h : PostO K g E F H (bnd m k S) Q) (Rel1 : Hp → α → γ → Prop) :
    Post K g E F H (m S) Rel1 (fun c H1 => ∃ a F1 S1, Fwd g F H F1 H1 S1 ∧ Rel1 F1 a c ∧ PostO K g E F1 H1 (k a S1) Q) := by
  unfold bnd at h
  cases e : m S with
  | ok a S1 =>
    rw [e] at h
    intro F1 H1 c f r
    refine ⟨a, F1, S1, f, r, ?_⟩
    cases e2 : k a S1 with
    | ok d S2 =>
      simp only [e2] at h
      obtain ⟨xs, rfl, q⟩ := h
      refine ⟨xs, rfl, fun F' H' p vs f' h1 h2 h3 r' => q F' H' p vs (f.trans f') h1 h2 (h3.back f) r'⟩
    | exc c' fs S2 =>
      simp only [e2] at h
      exact fun F' H' dx fv f' h1 h2 => h F' H' dx fv (f.trans f') h1 h2
    | stuck => simp only [e2] at h; exact h
  | exc c fs S1 => rw [e] at h; exact h
  | stuck => rw [e] at h; exact h
theorem lc_read {wi : List (Option D) → M (List D)} {own : List (Str × Nat)} {t : CT} {fts : List (Option D) → M Bool} {fe : List (Option D) → M D} (hsub : ∀ i ∈ tslots t, i ∈ own.map (·.2)) (σ : L2.St) (H : Hp) (Q : VK)
    (h : tD X.K g E (fLc wi (own.map (·.2)) t fts fe) σ H Q) : tLc (tI X.K g E wi) (tG X.K g t) (tDB X.K g (fun _ _ _ => False) fts) (fun σ H Q => Sized H → tD X.K g (fun _ _ _ => False) fe σ H Q) (own.map (·.2)) σ H Q := by
  obtain ⟨F, ρ, S, st, p⟩ := h
  unfold fLc at p
  refine ⟨F, ρ, S, st, (p.bind (fun F ds J => ItOk X.K g F ds J)).imp ?_⟩
  rintro J H1 ⟨ds, F1, S1, f1, J1, p⟩
  intro Dd hD
  obtain ⟨out, S', hgo, p⟩ := noX_ok p
  have hpa : g.pa ≠ Dd := ne_of_none f1.pn.at_ hD
  refine lc_loop (X := X) rfl (st.fwd f1) J1 hgo hsub hD fun F2 H2 acc fw hDd hF ra => p (upd F2 Dd (.lst acc)) H2 _ (fw.freeze (NT.of hD) hF hDd hpa (fun _ z => nomatch z)) ?_
  show Rep X.K g _ (.lst _) _
  simp only [Rep]
  refine ⟨Dd, acc, rfl, upd_same, Reps.mono (fun a u h => ?_) _ acc ra⟩
  rw [upd_ne (ne_of_none h hF)]; exact h
theorem lc_readO {wi : List (Option D) → M (List D)} {own : List (Str × Nat)} {t : CT} {fts : List (Option D) → M Bool} {fe : List (Option D) → M D} (hsub : ∀ i ∈ tslots t, i ∈ own.map (·.2)) (σ : L2.St) (H : Hp) (Q : VK)
    (h : tO X.K g E (fLc wi (own.map (·.2)) t fts fe) σ H Q) : tLc (tI X.K g E wi) (tG X.K g t) (tDB X.K g (fun _ _ _ => False) fts) (fun σ H Q => Sized H → tD X.K g (fun _ _ _ => False) fe σ H Q) (own.map (·.2)) σ H Q := by
  obtain ⟨F, ρ, S, st, p⟩ := h
  unfold fLc at p
  refine ⟨F, ρ, S, st, (p.bind (fun F ds J => ItOk X.K g F ds J)).imp ?_⟩
  rintro J H1 ⟨ds, F1, S1, f1, J1, p⟩
  intro Dd hD
  unfold bnd noX at p
  cases e : compGo (lcBody (own.map (·.2)) t fts fe ρ) ds [] S1 with
  | ok out S' =>
    rw [e] at p
    obtain ⟨xs, ex, q⟩ := p
    cases ex
    exact lc_loop (X := X) rfl (st.fwd f1) J1 e hsub hD fun F2 H2 acc fw hDd hF ra => q F2 H2 Dd acc fw hDd hF (NT.of hD) ra
  | exc c fs S' => rw [e] at p; exact p.elim
  | stuck => rw [e] at p; exact p.elim
/-- what a comprehension's parts are to show -/
structure LcP (X : Cx) (g : G) (E : XK) (elt tg iter : Expr) (ifs : List Expr) (scope : Scope) (own : List (Str × Nat)) (t : CT) (fi : List (Option D) → M (List D)) (fts : List (Option D) → M Bool) (fe : List (Option D) → M D) : Prop where
  hi : PDI X g E tg iter fi
  ok : BlkOk X.N X.env.scope scope own
  hg : ∀ (s : Shared) (H : Hp) (C : Addr) (cl : List (Str × Addr)) (fp : List Addr), PG (X.blk s H scope (compEnvC scope cl C X.env) fp) tg (tG X.K g t)
  ht : ∀ (s : Shared) (H : Hp) (C : Addr) (cl : List (Str × Addr)) (fp : List Addr), PTs (X.blk s H scope (compEnvC scope cl C X.env) fp) ifs (tDB X.K g (fun _ _ _ => False) fts)
  he : ∀ (s : Shared) (H : Hp) (C : Addr) (cl : List (Str × Addr)) (fp : List Addr), PE (X.blk s H scope (compEnvC scope cl C X.env) fp) elt (tD X.K g (fun _ _ _ => False) fe)
  hs : ∀ x, foldedSetIterable iter X.env x = pure x
  hsub : ∀ i ∈ tslots t, i ∈ own.map (·.2)
theorem pd_lc {elt tg iter : Expr} {ifs : List Expr} {scope : Scope} {own : List (Str × Nat)} {pos : Pos} {t : CT} {fi : List (Option D) → M (List D)} {fts : List (Option D) → M Bool} {fe : List (Option D) → M D}
    (hc : X.calm = true) (hN : X.N.Nodup) (p : LcP X g E elt tg iter ifs scope own t fi fts fe) : PD X g E (.ListComp elt [⟨tg, iter, ifs, 0⟩] scope pos) (fLc fi (own.map (·.2)) t fts fe) :=
  PE.weak (pe_lc hc hN p.hi p.ok p.hg p.ht (fun s H C cl fp => PE.sized (p.he s H C cl fp)) p.hs) fun σ H Q h => lc_read p.hsub σ H Q h
theorem pdo_lc {elt tg iter : Expr} {ifs : List Expr} {scope : Scope} {own : List (Str × Nat)} {pos : Pos} {t : CT} {fi : List (Option D) → M (List D)} {fts : List (Option D) → M Bool} {fe : List (Option D) → M D}
    (hc : X.calm = true) (hN : X.N.Nodup) (p : LcP X g E elt tg iter ifs scope own t fi fts fe) : PE X (.ListComp elt [⟨tg, iter, ifs, 0⟩] scope pos) (tO X.K g E (fLc fi (own.map (·.2)) t fts fe)) :=
  PE.weak (pe_lc hc hN p.hi p.ok p.hg p.ht (fun s H C cl fp => PE.sized (p.he s H C cl fp)) p.hs) fun σ H Q h => lc_readO p.hsub σ H Q h
theorem PS.weak {st : Stmt} {t t' : TS} (h : PS X st t) (w : ∀ D σ H, t' D σ H → t D σ H) : PS X st t' := ⟨fun pins s σ H D I q => h.run pins s σ H D I (w _ _ _ q)⟩
/-- name = a comprehension, in both ways that the machine has -/
theorem psa_lc {i : Nat} {y : Str} {py : Pos} {elt tg iter : Expr} {ifs : List Expr} {scope : Scope} {own : List (Str × Nat)} {pos spos : Pos} {t : CT} {fi : List (Option D) → M (List D)} {fts : List (Option D) → M Bool} {fe : List (Option D) → M D}
    (hc : X.calm = true) (hN : X.N.Nodup) (p : LcP X g E elt tg iter ifs scope own t fi fts fe) (hy : X.N[i]? = some y) (hx : Loc X.env.scope y) (hf : X.fn y = true ∨ X.env.scope.names.lookup y = some .local) :
    PS X (.Assign [.Name y py] (.ListComp elt [⟨tg, iter, ifs, 0⟩] scope pos) spos) (tAsg (tD X.K g E (fLc fi (own.map (·.2)) t fts fe)) (gName i)) ∧
    PS X (.Assign [.Name y py] (.ListComp elt [⟨tg, iter, ifs, 0⟩] scope pos) spos) (tAsg (tO X.K g E (fLc fi (own.map (·.2)) t fts fe)) (gName i)) := by
  have hsw : ∃ b, swapsWith (.ListComp elt [⟨tg, iter, ifs, 0⟩] scope pos) (some (.Name y py)) spos.line X.env = pure b ∧ (b = true → X.env.scope.names.lookup y = some .local) := by
    refine ⟨_, rfl, fun h => ?_⟩
    simp only [Bool.and_eq_true, beq_iff_eq] at h
    exact h.1.1.2
  obtain ⟨b, hb, hl⟩ := hsw
  cases b with
  | true =>
    have r := ps_setLc (i := i) (y := y) (py := py) (spos := spos) hc hN hy (hl rfl) hb p.hi p.ok p.hg p.ht (fun s H C cl fp => PE.sized (p.he s H C cl fp)) p.hs
    exact ⟨PS.weak r fun D σ H h => lc_read p.hsub σ H _ h, PS.weak r fun D σ H h => lc_readO p.hsub σ H _ h⟩
  | false => exact ⟨ps_set hN hy hx (pd_lc hc hN p) hb hf, ps_set hN hy hx (pdo_lc hc hN p) hb hf⟩

/-! ### two clauses -/
theorem compGoZ_step {body : D → M (Option D)} {d : D} {ds acc out : List D} {S S' : Pn} (h : compGoZ body (d :: ds) acc S = .ok out S') : ∃ r S1, body d S = .ok r S1 ∧ (r ≠ none → acc.length < 16777216) ∧ compGoZ body ds (app acc r) S1 = .ok out S' := by
  unfold compGoZ at h
  obtain ⟨r, S1, h1, h2⟩ := bnd_ok h
  cases r with
  | none => exact ⟨none, S1, h1, fun z => absurd rfl z, h2⟩
  | some x =>
    by_cases c : acc.length < 16777216
    · simp only [c, if_true] at h2
      exact ⟨some x, S1, h1, fun _ => c, h2⟩
    · simp only [c, if_false] at h2
      cases h2
theorem compGo2_step {body : D → List D → M (List D)} {d : D} {ds acc out : List D} {S S' : Pn} (h : compGo2 body (d :: ds) acc S = .ok out S') : ∃ r S1, body d acc S = .ok r S1 ∧ compGo2 body ds r S1 = .ok out S' := by
  unfold compGo2 at h
  exact bnd_ok h
def lc2Body (own own1 : List Nat) (t : CT) (fts : List (Option D) → M Bool) (fi1 : List (Option D) → M (List D)) (t1 : CT) (fts1 : List (Option D) → M Bool) (fe : List (Option D) → M D) (ρ : List (Option D)) : D → List D → M (List D) := fun d acc =>
  bnd (ofO (bindT t d (wipeD ρ own))) fun ρ' => bnd (fts ρ') fun c =>
    if c = true then bnd (fi1 ρ') fun ds1 => compGoZ (lcBody own1 t1 fts1 fe ρ') ds1 acc else ret acc
structure LcInv2 (K : PySem.W.Frag) (g : G) (rest : List D → M (List D)) (out : List D) (S' : Pn) (F1 H1 : Hp) (Dd : Addr) (H : Hp) : Prop where
  ex : ∃ F2 S2 outs acc, Fwd g F1 H1 F2 H S2 ∧ H Dd = some (.lst acc) ∧ F2 Dd = none ∧ Reps K g F2 outs acc ∧ rest outs S2 = .ok out S'
theorem lc_turnZ {X : Cx} {F1 H1 F3 H3 : Hp} {Dd : Addr} {fts : List (Option D) → M Bool} {fe : List (Option D) → M D} {σ2 : L2.St} {ρ' : List (Option D)} {S2 S1 : Pn} {r : Option D} {outs : List D} {acc : List V} {Nx : Hp → Prop}
    (hD : H1 Dd = none) (hpa : g.pa ≠ Dd) (fw : Fwd g F1 H1 F3 H3 S2) (hDd : H3 Dd = some (.lst acc)) (hF : F3 Dd = none) (ra : Reps X.K g F3 outs acc) (hl : r ≠ none → outs.length < 16777216)
    (st : Stt X.K g F3 H3 σ2 ρ' S2) (e : bnd (fts ρ') (fun c => if c = true then bnd (fe ρ') fun x => ret (some x) else ret none) S2 = .ok r S1)
    (nx : ∀ F4 H4 acc', Same F3 F4 → Fwd g F1 H1 F4 H4 S1 → H4 Dd = some (.lst acc') → F4 Dd = none → Reps X.K g F4 (app outs r) acc' → Nx H4) :
    tDB X.K g (fun _ _ _ => False) fts σ2 H3 fun b H4 => if b = true then tD X.K g (fun _ _ _ => False) fe σ2 H4 (fun y H5 => ∃ acc, H5 Dd = some (.lst acc) ∧ acc.length < sizeLine ∧ Nx (upd H5 Dd (.lst (acc ++ [y])))) else Nx H4 := by
  obtain ⟨c, Sa, h1, h2⟩ := bnd_ok e
  refine ⟨F3, ρ', S2, st, ?_⟩
  rw [h1]
  intro F4 H4 b f4 eb
  cases eb
  have hpn : Dd ≠ g.pa := Ne.symm hpa
  have d4 : H4 Dd = some (.lst acc) := f4.hh Dd _ hDd hpn (fun _ z => nomatch z)
  have n4 : F4 Dd = none := f4.hf Dd _ (hDd) (fun _ z => nomatch z) (fun _ z => nomatch z) hF
  cases c with
  | false =>
    cases h2
    exact nx F4 H4 acc f4.ff (fw.trans f4) d4 n4 (f4.tos ra)
  | true =>
    obtain ⟨y, Sb, h3, h4⟩ := bnd_ok (show bnd (fe ρ') (fun x => ret (some x)) Sa = _ from h2)
    cases h4
    refine ⟨F4, ρ', Sa, st.fwd f4, ?_⟩
    rw [h3]
    intro F5 H5 v f5 rv
    have d5 : H5 Dd = some (.lst acc) := f5.hh Dd _ d4 hpn (fun _ z => nomatch z)
    have n5 : F5 Dd = none := f5.hf Dd _ (d4) (fun _ z => nomatch z) (fun _ z => nomatch z) n4
    have la := ra.len
    have hl' := hl (by simp)
    refine ⟨acc, d5, by rw [sizeLine_eq]; omega, nx F5 _ (acc ++ [v]) (f4.trans f5).ff (((fw.trans f4).trans f5).upd' (NT.of hD) n5 hpa (by rw [d5]; exact noTab_lst)) upd_same n5 ?_⟩
    exact ((f4.trans f5).tos ra).app (Reps.one rv)
theorem lc2_read {own : List (Str × Nat)} {vs1 : List Nat} {t t1 : CT} {fi fi1 : List (Option D) → M (List D)} {fts fts1 : List (Option D) → M Bool} {fe : List (Option D) → M D} (hsub : ∀ i ∈ tslots t, i ∈ own.map (·.2)) (hsub1 : ∀ i ∈ tslots t1, i ∈ vs1) (σ : L2.St) (H : Hp) (Q : VK)
    (h : tD X.K g E (fun ρ => bnd (fi ρ) fun ds => bnd (noX (compGo2 (lc2Body (own.map (·.2)) vs1 t fts fi1 t1 fts1 fe ρ) ds [])) fun out => ret (.lst out)) σ H Q) :
    tLc2 (tI X.K g E fi) (tG X.K g t) (tDB X.K g (fun _ _ _ => False) fts) (tI X.K g (fun _ _ _ => False) fi1) (tG X.K g t1) (tDB X.K g (fun _ _ _ => False) fts1) (tD X.K g (fun _ _ _ => False) fe) (own.map (·.2)) vs1 σ H Q := by
  obtain ⟨F, ρ, S, st, p⟩ := h
  refine ⟨F, ρ, S, st, (p.bind (fun F ds J => ItOk X.K g F ds J)).imp ?_⟩
  rintro J H1 ⟨ds, F1, S1, f1, J1, p⟩
  intro Dd hD
  obtain ⟨out, S', hgo, p⟩ := noX_ok p
  have hpa : g.pa ≠ Dd := ne_of_none f1.pn.at_ hD
  have hpn : Dd ≠ g.pa := Ne.symm hpa
  refine ⟨fun i m H => m = ds.length - i ∧ i ≤ ds.length ∧ LcInv2 X.K g (fun o => compGo2 (lc2Body (own.map (·.2)) vs1 t fts fi1 t1 fts1 fe ρ) (ds.drop i) o) out S' F1 H1 Dd H, ⟨_, rfl, Nat.zero_le _, ⟨F1, S1, [], [], Fwd.newO f1.fh f1.pn hD, upd_same, ?_, Reps.nil, hgo⟩⟩, ?_⟩
  · cases z : F1 Dd with
    | none => rfl
    | some o => rw [f1.fh _ _ z] at hD; cases hD
  rintro i m H2 ⟨rfl, hi, ⟨F2, S2, outs, acc, fw, hDd, hF, ra, hgo⟩⟩
  by_cases hlt : i < ds.length
  · right
    have hd : ds[i]? = some ds[i] := List.getElem?_eq_getElem hlt
    obtain ⟨go, yl⟩ := J1.go i F2 H2 S2 ds[i] hd fw.ff fw.fh fw.pn
    have hgo : compGo2 (lc2Body (own.map (·.2)) vs1 t fts fi1 t1 fts1 fe ρ) (ds.drop i) outs S2 = .ok out S' := hgo
    rw [List.drop_eq_getElem_cons hlt] at hgo
    obtain ⟨r, S3, hb, hgo⟩ := compGo2_step hgo
    refine ⟨go, LcInv2 X.K g (fun o => compGo2 (lc2Body (own.map (·.2)) vs1 t fts fi1 t1 fts1 fe ρ) (ds.drop (i + 1)) o) out S' F1 H1 Dd, fun H' q => ⟨ds.length - (i + 1), by omega, rfl, hlt, q⟩, fun x H' y => ?_⟩
    obtain ⟨F3, f3, rx⟩ := yl x H' y
    unfold lc2Body at hb
    obtain ⟨ρ', Sx, hb1, hb2⟩ := bnd_ok hb
    obtain ⟨eb, rfl⟩ := ofO_ok hb1
    refine ⟨F3, wipeD ρ (own.map (·.2)), S2, ds[i], ρ', ((st.fwd (f1.trans (fw.trans f3))).wipe _), rx, eb, fun σ2 st2 sb => ?_⟩
    refine ⟨(wipe_but sb hsub).trans (wipe_wipe fun i h => h), ?_⟩
    obtain ⟨c, Sc, hc1, hc2⟩ := bnd_ok hb2
    refine ⟨F3, ρ', S2, st2, ?_⟩
    rw [hc1]
    intro F4 H4 b f4 eb4
    cases eb4
    have d4 : H4 Dd = some (.lst acc) := f4.hh _ _ (f3.hh _ _ hDd hpn (fun _ z => nomatch z)) hpn (fun _ z => nomatch z)
    have n4 : F4 Dd = none := f4.hf _ _ (f3.hh _ _ hDd hpn (fun _ z => nomatch z)) (fun _ z => nomatch z) (fun _ z => nomatch z) (f3.hf _ _ (hDd) (fun _ z => nomatch z) (fun _ z => nomatch z) hF)
    cases c with
    | false =>
      cases hc2
      exact ⟨F4, _, outs, acc, (fw.trans f3).trans f4, d4, n4, (f3.trans f4).tos ra, hgo⟩
    | true =>
      obtain ⟨ds1, Sd, hd1, hd2⟩ := bnd_ok (show bnd (fi1 ρ') (fun ds1 => compGoZ (lcBody vs1 t1 fts1 fe ρ') ds1 outs) Sc = _ from hc2)
      refine ⟨F4, ρ', Sc, st2.fwd f4, ?_⟩
      rw [hd1]
      intro F5 H5 J5 f5 ok5
      have d5 : H5 Dd = some (.lst acc) := f5.hh _ _ d4 hpn (fun _ z => nomatch z)
      have n5 : F5 Dd = none := f5.hf _ _ (d4) (fun _ z => nomatch z) (fun _ z => nomatch z) n4
      have fw5 : Fwd g F1 H1 F5 H5 Sd := ((fw.trans f3).trans f4).trans f5
      refine ⟨fun j k H => k = ds1.length - j ∧ j ≤ ds1.length ∧ Same F5 H ∧ ∃ F6 S6 outs6 acc6, Same F5 F6 ∧ Fwd g F1 H1 F6 H S6 ∧ H Dd = some (.lst acc6) ∧ F6 Dd = none ∧ Reps X.K g F6 outs6 acc6 ∧ compGoZ (lcBody vs1 t1 fts1 fe ρ') (ds1.drop j) outs6 S6 = .ok r S3,
        ⟨_, rfl, Nat.zero_le _, f5.fh, F5, Sd, outs, acc, Same.refl _, fw5, d5, n5, (f3.trans (f4.trans f5)).tos ra, hd2⟩, ?_⟩
      rintro j k H6 ⟨rfl, hj, s56, ⟨F6, S6, outs6, acc6, sf, fw6, d6, n6, r6, hgo6⟩⟩
      by_cases hlt1 : j < ds1.length
      · right
        have hdj : ds1[j]? = some ds1[j] := List.getElem?_eq_getElem hlt1
        obtain ⟨go1, yl1⟩ := ok5.go j F6 H6 S6 ds1[j] hdj sf fw6.fh fw6.pn
        rw [List.drop_eq_getElem_cons hlt1] at hgo6
        obtain ⟨r7, S7, hb7, hl7, hgo7⟩ := compGoZ_step hgo6
        refine ⟨go1, fun H => Same F5 H ∧ ∃ F6 S6 outs6 acc6, Same F5 F6 ∧ Fwd g F1 H1 F6 H S6 ∧ H Dd = some (.lst acc6) ∧ F6 Dd = none ∧ Reps X.K g F6 outs6 acc6 ∧ compGoZ (lcBody vs1 t1 fts1 fe ρ') (ds1.drop (j + 1)) outs6 S6 = .ok r S3,
          fun H' q => ⟨ds1.length - (j + 1), by omega, rfl, hlt1, q⟩, fun x7 H7 y7 => ?_⟩
        obtain ⟨F7, f7, rx7⟩ := yl1 x7 H7 y7
        unfold lcBody at hb7
        obtain ⟨ρ7, Sx7, hb71, hb72⟩ := bnd_ok hb7
        obtain ⟨eb7, rfl⟩ := ofO_ok hb71
        have st5 : Stt X.K g F7 H7 σ2 ρ' S6 := by
          refine ⟨f7.fh, f7.pn, st2.len, fun i d e => ?_⟩
          obtain ⟨v, hv, rv⟩ := ((st2.fwd f4).fwd f5).env i d e
          exact ⟨v, hv, Rep.mono (sf.trans f7.ff) d v rv⟩
        refine ⟨F7, wipeD ρ' vs1, S6, ds1[j], ρ7, st5.wipe _, rx7, eb7, fun σ7 st7 sb7 => ?_⟩
        refine ⟨(wipe_but sb7 hsub1).trans (wipe_wipe fun i h => h), ?_⟩
        refine lc_turnZ (X := X) hD hpa (fw6.trans f7) (f7.hh _ _ d6 hpn (fun _ z => nomatch z)) (f7.hf _ _ (d6) (fun _ z => nomatch z) (fun _ z => nomatch z) n6) (f7.tos r6) hl7 st7 hb72 fun F8 H8 acc8 s78 f8 d8 n8 r8 => ⟨(sf.trans (f7.ff.trans s78)).trans f8.fh, F8, S7, app outs6 r7, acc8, sf.trans (f7.ff.trans s78), f8, d8, n8, r8, hgo7⟩
      · left
        have e : j = ds1.length := by omega
        subst e
        rw [List.drop_length] at hgo6
        cases hgo6
        exact ⟨ok5.stop H6 s56, F6, _, _, acc6, fw6, d6, n6, r6, hgo⟩
  · left
    have e : i = ds.length := by omega
    subst e
    have hgo : compGo2 (lc2Body (own.map (·.2)) vs1 t fts fi1 t1 fts1 fe ρ) (ds.drop ds.length) outs S2 = .ok out S' := hgo
    rw [List.drop_length] at hgo
    cases hgo
    refine ⟨J1.stop H2 (fw.ff.trans fw.fh), p (upd F2 Dd (.lst acc)) H2 _ (fw.freeze (NT.of hD) hF hDd hpa (fun _ z => nomatch z)) ?_⟩
    show Rep X.K g _ (.lst _) _
    simp only [Rep]
    refine ⟨Dd, acc, rfl, upd_same, Reps.mono (fun a u h => ?_) _ acc ra⟩
    rw [upd_ne (ne_of_none h hF)]; exact h
theorem pd_lc2 {elt tg iter tg1 iter1 : Expr} {ifs ifs1 : List Expr} {scope : Scope} {own : List (Str × Nat)} {vs1 : List Nat} {pos : Pos} {t t1 : CT} {fi fi1 : List (Option D) → M (List D)} {fts fts1 : List (Option D) → M Bool} {fe : List (Option D) → M D}
    (hc : X.calm = true) (hN : X.N.Nodup) (hi : PDI X g E tg iter fi) (ok : BlkOk X.N X.env.scope scope own) (hv : ∀ i ∈ vs1, i ∈ own.map (·.2))
    (hg : ∀ (s : Shared) (H : Hp) (C : Addr) (cl : List (Str × Addr)) (fp : List Addr), PG (X.blk s H scope (compEnvC scope cl C X.env) fp) tg (tG X.K g t))
    (ht : ∀ (s : Shared) (H : Hp) (C : Addr) (cl : List (Str × Addr)) (fp : List Addr), PTs (X.blk s H scope (compEnvC scope cl C X.env) fp) ifs (tDB X.K g (fun _ _ _ => False) fts))
    (hi1 : ∀ (s : Shared) (H : Hp) (C : Addr) (cl : List (Str × Addr)) (fp : List Addr), PI (X.blk s H scope (compEnvC scope cl C X.env) fp) tg1 iter1 (tI X.K g (fun _ _ _ => False) fi1))
    (hg1 : ∀ (s : Shared) (H : Hp) (C : Addr) (cl : List (Str × Addr)) (fp : List Addr), PG (X.blk s H scope (compEnvC scope cl C X.env) fp) tg1 (tG X.K g t1))
    (ht1 : ∀ (s : Shared) (H : Hp) (C : Addr) (cl : List (Str × Addr)) (fp : List Addr), PTs (X.blk s H scope (compEnvC scope cl C X.env) fp) ifs1 (tDB X.K g (fun _ _ _ => False) fts1))
    (he : ∀ (s : Shared) (H : Hp) (C : Addr) (cl : List (Str × Addr)) (fp : List Addr), PE (X.blk s H scope (compEnvC scope cl C X.env) fp) elt (tD X.K g (fun _ _ _ => False) fe))
    (hs : ∀ x, foldedSetIterable iter X.env x = pure x) (hs1 : ∀ env x, foldedSetIterable iter1 env x = pure x) (hsub : ∀ i ∈ tslots t, i ∈ own.map (·.2)) (hsub1 : ∀ i ∈ tslots t1, i ∈ vs1) :
    PD X g E (.ListComp elt [⟨tg, iter, ifs, 0⟩, ⟨tg1, iter1, ifs1, 0⟩] scope pos) (fun ρ => bnd (fi ρ) fun ds => bnd (noX (compGo2 (lc2Body (own.map (·.2)) vs1 t fts fi1 t1 fts1 fe ρ) ds [])) fun out => ret (.lst out)) := by
  exact PE.weak (pe_lc2 hc hN hi ok hv hg ht hi1 hg1 ht1 he hs hs1) fun σ H Q h => lc2_read hsub hsub1 σ H Q h
theorem psa_lc2 {i : Nat} {y : Str} {py spos : Pos} {elt tg iter tg1 iter1 : Expr} {ifs ifs1 : List Expr} {scope : Scope} {own : List (Str × Nat)} {vs1 : List Nat} {pos : Pos} {t t1 : CT} {fi fi1 : List (Option D) → M (List D)} {fts fts1 : List (Option D) → M Bool} {fe : List (Option D) → M D}
    (hc : X.calm = true) (hN : X.N.Nodup) (hi : PDI X g E tg iter fi) (ok : BlkOk X.N X.env.scope scope own) (hv : ∀ i ∈ vs1, i ∈ own.map (·.2))
    (hg : ∀ (s : Shared) (H : Hp) (C : Addr) (cl : List (Str × Addr)) (fp : List Addr), PG (X.blk s H scope (compEnvC scope cl C X.env) fp) tg (tG X.K g t))
    (ht : ∀ (s : Shared) (H : Hp) (C : Addr) (cl : List (Str × Addr)) (fp : List Addr), PTs (X.blk s H scope (compEnvC scope cl C X.env) fp) ifs (tDB X.K g (fun _ _ _ => False) fts))
    (hi1 : ∀ (s : Shared) (H : Hp) (C : Addr) (cl : List (Str × Addr)) (fp : List Addr), PI (X.blk s H scope (compEnvC scope cl C X.env) fp) tg1 iter1 (tI X.K g (fun _ _ _ => False) fi1))
    (hg1 : ∀ (s : Shared) (H : Hp) (C : Addr) (cl : List (Str × Addr)) (fp : List Addr), PG (X.blk s H scope (compEnvC scope cl C X.env) fp) tg1 (tG X.K g t1))
    (ht1 : ∀ (s : Shared) (H : Hp) (C : Addr) (cl : List (Str × Addr)) (fp : List Addr), PTs (X.blk s H scope (compEnvC scope cl C X.env) fp) ifs1 (tDB X.K g (fun _ _ _ => False) fts1))
    (he : ∀ (s : Shared) (H : Hp) (C : Addr) (cl : List (Str × Addr)) (fp : List Addr), PE (X.blk s H scope (compEnvC scope cl C X.env) fp) elt (tD X.K g (fun _ _ _ => False) fe))
    (hs : ∀ x, foldedSetIterable iter X.env x = pure x) (hs1 : ∀ env x, foldedSetIterable iter1 env x = pure x) (hsub : ∀ i ∈ tslots t, i ∈ own.map (·.2)) (hsub1 : ∀ i ∈ tslots t1, i ∈ vs1)
    (hy : X.N[i]? = some y) (hx : Loc X.env.scope y) (hf : X.fn y = true ∨ X.env.scope.names.lookup y = some .local) :
    PS X (.Assign [.Name y py] (.ListComp elt [⟨tg, iter, ifs, 0⟩, ⟨tg1, iter1, ifs1, 0⟩] scope pos) spos) (tAsg (tD X.K g E (fun ρ => bnd (fi ρ) fun ds => bnd (noX (compGo2 (lc2Body (own.map (·.2)) vs1 t fts fi1 t1 fts1 fe ρ) ds [])) fun out => ret (.lst out))) (gName i)) := by
  have hsw : ∃ b, swapsWith (.ListComp elt [⟨tg, iter, ifs, 0⟩, ⟨tg1, iter1, ifs1, 0⟩] scope pos) (some (.Name y py)) spos.line X.env = pure b ∧ (b = true → X.env.scope.names.lookup y = some .local) := by
    refine ⟨_, rfl, fun h => ?_⟩
    simp only [Bool.and_eq_true, beq_iff_eq] at h
    exact h.1.1.2
  obtain ⟨b, hb, hl⟩ := hsw
  cases b with
  | true =>
    have r := ps_setLc2 (i := i) (y := y) (py := py) (spos := spos) hc hN hy (hl rfl) hb hi ok hv hg ht hi1 hg1 ht1 he hs hs1
    exact PS.weak r fun D σ H h => lc2_read hsub hsub1 σ H _ h
  | false => exact ps_set hN hy hx (pd_lc2 hc hN hi ok hv hg ht hi1 hg1 ht1 he hs hs1 hsub hsub1) hb hf
end
end Pur

/-! PurX: xs[::-1], tuples with starred parts, sorted({x: True for x in xs}). -/
namespace Pur
open
    PySem PySem.Spec PyProof.Rows L2
section
variable {X : Cx} {g : G} {E : XK}
theorem Reps.rev {K : PySem.W.Frag} {F : Hp} : ∀ {ds : List D} {vs : List V}, Reps K g F ds vs → Reps K g F ds.reverse vs.reverse
  | [], vs, h => by simp only [Reps] at h; subst h; exact Reps.nil
  | d :: ds, vs, h => by
    simp only [Reps] at h
    obtain ⟨v, r, rfl, q, t⟩ := h
    rw
        [List.reverse_cons, List.reverse_cons]
    exact (Reps.rev t).app (Reps.one q)
theorem pd_rev {a : Expr} {fa : List (Option D) → M D} {k : Nat} {p1 p2 p3 pos : Pos} (ha : PD X g E a fa) :
    PD X g E (.Subscript a (.Slice none none (some (.UnaryOp .USub (.Constant (.int 1) k p1) p2)) p3) pos) (fun ρ => bnd (fa ρ) fun x => ofO (revD x)) := by
  refine PE.weak (pe_revL ha) fun σ H Q h => ?_
  obtain ⟨F, ρ, S, st, p⟩ := h
  refine ⟨F, ρ, S, st, (p.bind (RepD X.K g)).imp ?_⟩
  rintro x H1 ⟨dx, F1, S1, f1, r1, p⟩
  obtain ⟨d, e, q⟩ := p.ofO
  cases dx <;> simp only [revD] at e <;> (try (cases e; done))
  cases e
  have r1 : Rep X.K g F1 (.lst _) x := r1
  simp only [Rep] at r1
  obtain ⟨p, vs, rfl, hq, rs⟩ := r1
  exact ⟨p, vs, rfl, SqL.of (f1.fh _ _ hq), fun p hp => new_lst f1.fh f1.pn rs.rev hp fun v F' H' f r => q F' H' v f r⟩
theorem pds_star {e : Expr} {es : List Expr} {fe : List (Option D) → M D} {fs : List (Option D) → M (List D)} {p : Pos} (he : PD X g E e fe) (hr : PDs X g E es fs) :
    PDs X g E (.Starred e p :: es) (fun ρ => bnd (fe ρ) fun d => bnd (ofO (seqD d)) fun xs => bnd (fs ρ) fun ds => ret (xs ++ ds)) := by
  refine PA.weak (StX.pa_star he hr) fun σ H Q h => ?_
  obtain ⟨F, ρ, S, st, p⟩ := h
  refine ⟨F, ρ, S, st, (p.bind (RepD X.K g)).imp ?_⟩
  rintro x H1 ⟨dx, F1, S1, f1, r1, p⟩
  obtain ⟨xs, e, p⟩ := p.some
  have r1 : Rep X.K g F1 dx x := r1
  have go : ∀ (ys : List V), Reps X.K g F1 xs ys → tDs X.K g E fs σ H1 fun zs H2 => Q (ys ++ zs) H2 := fun ys ry => by
    refine ⟨F1, ρ, S1, st.fwd f1, (p.bind (RepsD X.K g)).imp ?_⟩
    rintro zs H2 ⟨dz, F2, S2, f2, r2, p2⟩
    exact p2 F2 H2 _ (Fwd.refl f2.fh f2.pn) ((f2.tos ry).app r2)
  cases dx <;> simp only [seqD] at e <;> (try (cases e; done)) <;> cases e <;> simp only [Rep] at r1 <;> obtain ⟨a, ys, rfl, hq, rs⟩ := r1
  · exact ⟨a, ys, rfl, .inl (TupAt.sq f1.fh hq), go ys rs⟩
  · exact ⟨a, ys, rfl, .inr (SqL.of (f1.fh _ _ hq)), go ys rs⟩
/-! ### sorted({x: True for x in xs}) -/
theorem put_keys {rows : List (List Key × V)} {acc : List (List Int)} {l : List Int} {z : V} (h : rows.map (·.1) = acc.map fun l => l.map Sum.inl) : (putK rows (l.map Sum.inl) z).map (·.1) = (addOnce acc l).map fun l => l.map Sum.inl := by
  have inj : ∀ a b : List Int, (a.map (Sum.inl : Int → Key)) = b.map Sum.inl → a = b := fun a b e => (List.map_inj_right (fun x y z => by cases z; rfl)).mp e
  have hc : (rows.any fun kv => decide (kv.1 = l.map Sum.inl)) = acc.contains l := by
    have e1 : (rows.any fun kv => decide (kv.1 = l.map Sum.inl)) = (rows.map (·.1)).any (fun k => decide (k = l.map Sum.inl)) := by rw [List.any_map]; rfl
    rw [e1, h, List.any_map]
    apply Bool.eq_iff_iff.mpr
    rw [List.any_eq_true, List.contains_iff_mem]
    constructor
    · rintro ⟨a, ha, e⟩
      have : a = l := inj a l (by simpa using e)
      rw [← this]; exact ha
    · intro hm
      exact ⟨l, hm, by simp⟩
  unfold putK addOnce
  rw [hc]
  by_cases c : acc.contains l = true
  · rw [if_pos c, if_pos c, List.map_map, ← h]
    refine List.map_congr_left fun kv _ => ?_
    show (if kv.1 = l.map Sum.inl then (kv.1, z) else kv).1 = kv.1
    split <;> rfl
  · rw [if_neg c, if_neg c, List.map_append, h, List.map_append]
    rfl
theorem put_len {rows : List (List Key × V)} {k : List Key} {z : V} : (putK rows k z).length ≤ rows.length + 1 := length_putK rows k z
theorem tups_get : ∀ {ds : List D} {L : List (List Int)} {i : Nat} {d : D}, tupsInts ds = some L → ds[i]? = some d → ∃ l, L[i]? = some l ∧ tupInts d = some l
  | [], L, i, d, h, e => by simp at e
  | x :: ds, L, i, d, h, e => by
    simp only [tupsInts] at h
    cases z1 : tupInts x with
    | none => rw [z1] at h; cases h
    | some l =>
      rw [z1] at h
      cases z2 : tupsInts ds with
      | none => rw [z2] at h; cases h
      | some L' =>
        rw [z2] at h; cases h
        cases i with
        | zero => simp at e; subst e; exact ⟨l, rfl, z1⟩
        | succ i => simpa using tups_get z2 (by simpa using e)
theorem tups_len : ∀ {ds : List D} {L : List (List Int)}, tupsInts ds = some L → L.length = ds.length
  | [], L, h => by simp only [tupsInts] at h; cases h; rfl
  | x :: ds, L, h => by
    simp only [tupsInts] at h
    cases z1 : tupInts x with
    | none => rw [z1] at h; cases h
    | some l =>
      rw [z1] at h
      cases z2 : tupsInts ds with
      | none => rw [z2] at h; cases h
      | some L' => rw [z2] at h; cases h; simp [tups_len z2]
theorem tups_ne : ∀ {ds : List D} {L : List (List Int)}, tupsInts ds = some L → ∀ n ∈ L, n ≠ []
  | [], L, h, n, hn => by simp only [tupsInts] at h; cases h; simp at hn
  | x :: ds, L, h, n, hn => by
    simp only [tupsInts] at h
    cases z1 : tupInts x with
    | none => rw [z1] at h; cases h
    | some l =>
      rw [z1] at h
      cases z2 : tupsInts ds with
      | none => rw [z2] at h; cases h
      | some L' =>
        rw [z2] at h; cases h
        rcases List.mem_cons.mp hn with rfl | hn
        · cases x <;> simp only [tupInts] at z1 <;> (try (cases z1; done))
          rename_i xs
          cases z : intsOf xs with
          | none => rw [z] at z1; cases z1
          | some l' =>
            rw [z] at z1
            have z1 : (if l' = [] then none else some l') = some n := z1
            by_cases e : l' = []
            · rw [if_pos e] at z1; cases z1
            · rw [if_neg e] at z1; cases z1; exact e
        · exact tups_ne z2 n hn
theorem once_mem {L : List (List Int)} : ∀ {acc : List (List Int)} {n : List Int}, n ∈ L.foldl addOnce acc → n ∈ acc ∨ n ∈ L := by
  induction L with
  | nil => exact fun h => .inl h
  | cons l L ih =>
    intro acc n h
    rcases ih (acc := addOnce acc l) h with h | h
    · unfold addOnce at h
      split at h
      · exact .inl h
      · rcases
            List.mem_append.mp h with h | h
        · exact .inl h
        · exact .inr (by rw [List.mem_singleton.mp h]; exact List.mem_cons_self)
    · exact .inr (List.mem_cons_of_mem _ h)
theorem once_take {L : List (List Int)} {i : Nat} {l : List Int} (h : L[i]? = some l) : once (L.take (i + 1)) = addOnce (once (L.take i)) l := by
  unfold once
  have hi := (List.getElem?_eq_some_iff.mp h).1
  rw [List.take_succ_eq_append_getElem hi, List.foldl_append]
  have : L[i] = l := by
    have := (List.getElem?_eq_some_iff.mp h).2; exact this
  rw [this]; rfl
theorem pd_srtDc {iter : Expr} {scope : Scope} {own : List (Str × Nat)} {i k : Nat} {x : Str} {fi : List (Option D) → M (List D)} {p p1 p2 p3 pos pos2 : Pos} (hu : X.A.units < cLine) (hc : X.calm = true) (hN : X.N.Nodup) (hg : Gl X "sorted") (hm : X.mg "sorted" = none)
    (hi : PDI X g E (.Name x p1) iter fi) (ok : BlkOk X.N X.env.scope scope own) (ht : BlkPG X scope (.Name x p1) (gName i)) (hk : BlkPE X scope (.Name x p2) (tVar i)) (hs : ∀ v, foldedSetIterable iter X.env v = pure v) (hin : i ∈ own.map (·.2)) :
    PD X g E (.Call (.Name "sorted" p) [.DictComp (.Name x p2) (.Constant (.bool true) k p3) [⟨.Name x p1, iter, [], 0⟩] scope pos2] [] pos) (fun ρ => bnd (fi ρ) fun ds => ofO (if i < ρ.length then srtOnce ds else none)) := by
  refine PE.weak (pe_callB (cr_sortDT hc) hg hm (by decide +kernel) (pa_cons (pe_dcT hu hc hN hi ok ht hk (fun _ _ _ _ _ => pe_bl) hs) pa_nil)) fun σ H Q h => ?_
  obtain ⟨F, ρ, S, st, p⟩ := h
  refine ⟨F, ρ, S, st, (p.bind (fun F ds J => ItOk X.K g F ds J)).imp ?_⟩
  rintro J H1 ⟨ds, F1, S1, f1, iok, p⟩ dc hdc
  obtain ⟨d, e, q⟩ := p.ofO
  obtain ⟨hlen, e⟩ : i < ρ.length ∧ srtOnce ds = some d := by
    by_cases c : i < ρ.length
    · rw [if_pos c] at e; exact ⟨c, e⟩
    · rw [if_neg c] at e; cases e
  unfold srtOnce at e
  cases zL : tupsInts ds with
  | none => rw [zL] at e; cases e
  | some L =>
    rw [zL] at e
    obtain ⟨hline, rfl⟩ := ofIf e
    have hpa : g.pa ≠ dc := ne_of_none f1.pn.at_ hdc
    have fdc : F1 dc = none := by
      cases z : F1 dc with
      | none => rfl
      | some o => have := f1.fh dc o z; rw [hdc] at this; cases this
    have ll := tups_len zL
    refine ⟨fun i m Hi => m = ds.length - i ∧ i ≤ ds.length ∧ ∃ Fi rows, Fwd g F1 H1 Fi Hi S1 ∧ Fi dc = none ∧ Hi dc = some (.dT rows) ∧ rows.length ≤ i ∧ rows.map (·.1) = (once (L.take i)).map fun l => l.map Sum.inl,
      ⟨_, rfl, Nat.zero_le _, F1, [], Fwd.newO f1.fh f1.pn hdc, fdc, upd_same, Nat.le_refl _, by simp [once]⟩, ?_⟩
    rintro j m Hi ⟨rfl, hj, Fi, rows, fw, nF, hD, hl, hkeys⟩
    by_cases c : j < ds.length
    · right
      have hd : ds[j]? = some ds[j] := List.getElem?_eq_getElem c
      obtain ⟨l, hLl, hti⟩ := tups_get zL hd
      obtain ⟨go, yl⟩ := iok.go j Fi Hi S1 _ hd fw.ff fw.fh fw.pn
      refine ⟨go, fun Ha => ∃ m', m' < ds.length - j ∧ (m' = ds.length - (j + 1) ∧ j + 1 ≤ ds.length ∧ ∃ Fi rows, Fwd g F1 H1 Fi Ha S1 ∧ Fi dc = none ∧ Ha dc = some (.dT rows) ∧ rows.length ≤ j + 1 ∧ rows.map (·.1) = (once (L.take (j + 1))).map fun l => l.map Sum.inl), fun Ha h => h, fun x Hx hy => ?_⟩
      obtain ⟨F2, f2, r2⟩ := yl x Hx hy
      obtain ⟨⟨t, rfl, ht⟩, _, _⟩ := tupInts_of f2.fh r2 hti
      have hlen' : i < (wipe σ (own.map (·.2))).length := by rw [wipe_length, ← st.len]; exact hlen
      refine ⟨?_, _, List.getElem?_set_self hlen', rows, l.map Sum.inl, t, rfl, ?_, ?_, by omega, ?_⟩
      · rw [wipe_but (l := [i]) (σ := wipe σ (own.map (·.2))) ⟨by rw [List.length_set], fun j hj => by rw [List.getElem?_set_ne]; intro e; subst e; simp at hj⟩ (fun j hj => by rw [List.mem_singleton.mp hj]; exact hin)]
        exact wipe_wipe (fun _ h => h)
      · rw [List.map_map]; exact ht
      · exact f2.hh _ _ hD (Ne.symm hpa) (fun _ z => nomatch z)
      · have n2 : F2 dc = none := f2.hf dc _ hD (fun _ z => nomatch z) (fun _ z => nomatch z) nF
        refine ⟨_, by omega, rfl, by omega, F2, _, (fw.trans f2).upd' (NT.of hdc) n2 hpa (by rw [f2.hh _ _ hD (Ne.symm hpa) (fun _ z => nomatch z)]; exact noTab_dT), n2, upd_same, Nat.le_trans put_len (by omega), ?_⟩
        rw [once_take hLl]
        exact put_keys hkeys
    · left
      have ej : j = ds.length := by omega
      subst ej
      refine ⟨iok.stop Hi (fw.ff.trans fw.fh), dc, rows, once L, rfl, hD, ?_, fun n hn => ?_, fun ys p t hp => ?_⟩
      · rw [hkeys, List.take_of_length_le (by omega)]
      · rcases once_mem hn with h | h
        · simp at h
        · exact tups_ne zL n h
      · exact new_tls fw.fh fw.pn t hp fun v F' H' f r => q F' H' v (fw.trans f) r
theorem pd_tupS {es : List Expr} {fs : List (Option D) → M (List D)} {k : Nat} {pos : Pos} (h : PDs X g E es fs) : PD X g E (.Tuple es k pos) (fun ρ => bnd (fs ρ) fun ds => ofO (if ds.length ≤ 1000 then some (.tup ds) else none)) := by
  refine PE.weak (pe_tup h) fun σ H Q h => ?_
  obtain ⟨F, ρ, S, st, p⟩ := h
  refine ⟨F, ρ, S, st, (p.bind (RepsD X.K g)).imp ?_⟩
  rintro vs H1 ⟨ds, F1, S1, f1, r1, p⟩
  obtain ⟨d, e, q⟩ := p.ofO
  obtain ⟨hl, rfl⟩ := ofIf e
  have r1 : Reps X.K g F1 ds vs := r1
  have := r1.len
  exact ⟨Nat.le_trans (by omega : vs.length ≤ 1000) (by rw [sizeLine_eq]; decide), fun p hp => new_tup f1.fh f1.pn r1 hp fun v F' H' f r => q F' H' v f r⟩
/-! ### sorted(set(xs)), {} -/
theorem once_all {L : List (List Int)} : ∀ {acc : List (List Int)} {n : List Int}, n ∈ acc ∨ n ∈ L → n ∈ L.foldl addOnce acc := by
  induction L with
  | nil => exact fun h => h.elim id fun z => by cases z
  | cons l L ih =>
    intro acc n h
    refine ih (acc := addOnce acc l) ?_
    have keep : ∀ x ∈ acc, x ∈ addOnce acc l := fun x hx => by
      unfold addOnce
      split
      · exact hx
      · exact List.mem_append_left _ hx
    rcases h with h | h
    · exact .inl (keep n h)
    · rcases
          List.mem_cons.mp h with rfl | h
      · left
        unfold addOnce
        split
        · rename_i c; exact List.contains_iff_mem.mp c
        · exact List.mem_append_right _ (List.mem_singleton.mpr rfl)
      · exact .inr h
theorem once_nd {L : List (List Int)} : ∀ {acc : List (List Int)}, acc.Nodup → (L.foldl addOnce acc).Nodup := by
  induction L with
  | nil => exact fun h => h
  | cons l L ih =>
    intro acc h
    refine ih (acc := addOnce acc l) ?_
    unfold addOnce
    split
    · exact h
    · rename_i c
      rw [List.nodup_append]
      refine ⟨h, by simp, fun a ha b hb => ?_⟩
      rw [List.mem_singleton.mp hb]
      rintro rfl
      exact c (List.contains_iff_mem.mpr ha)
theorem srt_once {L M : List (List Int)} (nd : M.Nodup) (h : ∀ n, n ∈ M ↔ n ∈ L) : srtT M = srtT (once L) := by
  refine srt_uniq (srtT_srt _) (srtT_srt _) ((srtT_perm M).trans (List.Perm.trans ?_ (srtT_perm _).symm))
  refine (List.perm_ext_iff_of_nodup nd (once_nd List.nodup_nil)).mpr fun n => ?_
  rw [h]
  exact ⟨fun z => once_all (.inr z), fun z => (once_mem (acc := []) z).elim (fun y => by cases y) id⟩
theorem tls_refs {K : PySem.W.Frag} {H : Hp} : ∀ {vs : List V} {L : List (List Int)}, TLs K H vs L → ∃ ks : List (Addr × List Int), vs = ks.map (fun p => V.ref p.1) ∧ L = ks.map (·.2) ∧ ∀ p ∈ ks, H p.1 = some (.tup (p.2.map V.int))
  | _, _, .nil => ⟨[], rfl, rfl, fun p h => by cases h⟩
  | _, _, .cons (n := n) ⟨t, e, ht⟩ r => by
    obtain ⟨ks, rfl, rfl, h⟩ := tls_refs r
    subst e
    refine ⟨(t, n) :: ks, rfl, rfl, fun p hp => ?_⟩
    rcases
        List.mem_cons.mp hp with rfl | hp
    · exact ht
    · exact h p hp
theorem pd_srtSet {a : Expr} {fa : List (Option D) → M D} {p p2 q pos : Pos} (hc : X.calm = true) (hu : X.A.units + 64 < cLine) (hg : Gl X "sorted") (hm : X.mg "sorted" = none) (hg2 : Gl X "set") (hm2 : X.mg "set" = none) (ha : PD X g E a fa)
    (na : starEach [a] X.env = (false, eval a X.env) :: starEach [] X.env) : PD X g E (.Call (.Name "sorted" p) [.Call (.Name "set" p2) [a] [] q] [] pos) (fun ρ => bnd (fa ρ) fun x => ofO (srtSetD x)) := by
  refine PE.weak (pe_callB (cr_sortG hc) hg hm (by decide +kernel) (pa_cons (pe_callTy (cr_setG hc hu) hg2 hm2 (by decide +kernel) (pa_cons ha pa_nil na) (he := na)) pa_nil)) fun σ H Q h => ?_
  obtain ⟨F, ρ, S, st, pp⟩ := h
  refine ⟨F, ρ, S, st, (pp.bind (RepD X.K g)).imp ?_⟩
  rintro x H1 ⟨dx, F1, S1, f1, r1, pp⟩
  obtain ⟨d, e, qq⟩ := pp.ofO
  cases dx <;> simp only [srtSetD] at e <;> (try (cases e; done))
  rename_i xs
  cases z : tupsInts xs with
  | none => rw [z] at e; cases e
  | some L =>
    rw [z] at e
    obtain ⟨hL, rfl⟩ := ofIf (show (if L.length ≤ 300 then some (D.lst ((srtT (once L)).map ofInts)) else none) = some d from e)
    have r1 : Rep X.K g F1 (.lst xs) x := r1
    simp only [Rep] at r1
    obtain ⟨l, ws, rfl, hq, rs⟩ := r1
    obtain ⟨t1, t2⟩ := tls_of f1.fh rs z
    obtain ⟨ks, rfl, rfl, hk⟩ := tls_refs t1
    refine ⟨l, ks, rfl, SqL.of (f1.fh _ _ hq), hk, by simpa using hL, fun b M hb hsub hall nd => ?_⟩
    have ne : ∀ p ∈ ks, p.1 ≠ b := fun p hp => ne_of_none (hk p hp) hb
    have f2 : Fwd g F1 H1 F1 (upd H1 b (SgO X.prog X.w b M)) S1 := Fwd.newO f1.fh f1.pn hb
    refine ⟨b, M, rfl, upd_same, fun p hp => ⟨?_, t2 _ (List.mem_map.mpr ⟨p, hsub p hp, rfl⟩)⟩, fun ys c t hcn => ?_⟩
    · rw [upd_ne (ne p (hsub p hp))]; exact hk p (hsub p hp)
    · have em : srtT (M.map (·.2)) = srtT (once (ks.map (·.2))) := srt_once nd fun n => by
        constructor
        · intro hn
          obtain ⟨p, hp, rfl⟩ := List.mem_map.mp hn
          exact List.mem_map.mpr ⟨p, hsub p hp, rfl⟩
        · intro hn
          obtain ⟨p, hp, rfl⟩ := List.mem_map.mp hn
          exact hall p hp
      rw [em] at t
      exact new_tls f2.fh f2.pn t hcn fun v F' H' f r => qq F' H' v (f2.trans f) r
theorem pd_dict0 {pos : Pos} : PD X g E (.Dict [] [] pos) (fun _ => ret .dic) := by
  refine PE.weak pe_dnewT fun σ H Q h => ?_
  obtain ⟨F, ρ, S, st, pp⟩ := h
  intro p hp
  have f : Fwd g F H (upd F p (.dT [])) (upd H p (.dT [])) S := Fwd.new st.fh st.pn hp (fun _ z => nomatch z)
  refine pp _ _ _ f ?_
  show Rep X.K g _ .dic _
  simp only [Rep]
  exact ⟨p, rfl, upd_same⟩
end
end Pur

/-! PurL: _law_heard(lambda: e). -/
namespace Pur
open
    PySem PySem.Spec PyProof.Rows L2
section
variable {X : Cx} {g : G} {E : XK}
/-- the heap grew, one object of the new ones is told -/
theorem Fwd.ext {F H H' : Hp} {S : Pn} {p : Addr} {o : HO} (fh : Same F H) (pn : PenOk g F H S) (e : ∀ b u, H b = some u → H' b = some u) (hp : H p = none) (hp' : H' p = some o) (ho : ∀ ps, o ≠ .tbl ps) : Fwd g F H (L2.upd F p o) H' S where
  ff := fun a u h => by rw [upd_ne (ne_of_none (fh a u h) hp)]; exact h
  fh := fun a u h => by
    by_cases c : a = p
    · subst c; rw [upd_same] at h; cases h; exact hp'
    · rw [upd_ne c] at h; exact e a u (fh a u h)
  hh := fun a u h _ _ => e a u h
  hf := fun a u h _ _ f => by rw [upd_ne (ne_of_none h hp)]; exact f
  pn := by
    have n1 : g.pa ≠ p := ne_of_none pn.at_ hp
    refine ⟨by rw [upd_ne n1]; exact pn.fr, e _ _ pn.at_, ?_, pn.tb.ext e, fun a ps z => ?_, fun e he => ?_⟩
    rotate_left 2
    · obtain ⟨h1, h2⟩ := pn.xn e he
      exact ⟨by rw [upd_ne (ne_of_none (fh _ _ h1) hp)]; exact h1, by rw [upd_ne (ne_of_none (fh _ _ h2) hp)]; exact h2⟩
    · rw [upd_ne (ne_of_none (fh _ _ pn.cs) hp)]; exact pn.cs
    · by_cases c : a = p
      · subst c; rw [upd_same] at z; cases z; exact ho ps rfl
      · rw [upd_ne c] at z; exact pn.nt a ps z
theorem repF_get {K : PySem.W.Frag} {F : Hp} {x : Str} : ∀ {fs : List (Str × D)} {fv : List (Str × V)} {d : D}, RepF K g F fs fv → fs.lookup x = some d → ∃ v, fv.lookup x = some v ∧ Rep K g F d v
  | [], fv, d, h, e => by cases e
  | (y, d0) :: fs, fv, d, h, e => by
    simp only [RepF] at h
    obtain ⟨v, r, rfl, q, t⟩ := h
    rw [List.lookup_cons] at e ⊢
    cases c : x == y with
    | true => rw [c] at e; cases e; exact ⟨v, rfl, q⟩
    | false => rw [c] at e; exact repF_get t e
theorem repF_all {K : PySem.W.Frag} {F : Hp} {fs : List (Str × D)} {fv : List (Str × V)} (h : RepF K g F fs fv) : ∀ {l : List Str} {ds : List D}, mapO (fun x => fs.lookup x) l = some ds → ∃ vs, mapO (fun x => fv.lookup x) l = some vs ∧ Reps K g F ds vs
  | [], ds, e => by simp only [mapO] at e ⊢; cases e; exact ⟨[], rfl, Reps.nil⟩
  | x :: l, ds, e => by
    simp only [mapO] at e ⊢
    cases z1 : fs.lookup x with
    | none => rw [z1] at e; cases e
    | some d =>
      rw [z1] at e
      cases z2 : mapO (fun x => fs.lookup x) l with
      | none =>
        have e : (mapO (fun x => fs.lookup x) l).map (fun l => d :: l) = some ds := e
        rw [z2] at e; cases e
      | some ds' =>
        have e : (mapO (fun x => fs.lookup x) l).map (fun l => d :: l) = some ds := e
        rw [z2] at e; cases e
        obtain ⟨v, hv, rv⟩ := repF_get h z1
        obtain ⟨vs, hvs, rvs⟩ := repF_all h z2
        refine ⟨v :: vs, ?_, Reps.cons rv rvs⟩
        rw [hv]
        show (mapO (fun x => fv.lookup x) l).map (fun l => v :: l) = _
        rw [hvs]; rfl
/-- what is heard, read off -/
theorem heard_read {K : PySem.W.Frag} {hk : List (Str × Str × List Str)} {f : List (Option D) → M D} {σ : L2.St} {H : Hp} {Q : VK} (h : tD K g E (fun ρ => heardM hk (f ρ)) σ H Q) :
    LamX.tLam g.T (TTh K g hk) (fun E' => tD K g E' f) σ H Q := by
  obtain ⟨F, ρ, S, st, p⟩ := h
  refine ⟨st.pn.tb, fun H1 ex tb => ?_⟩
  have fw := Fwd.tabs st.fh st.pn ex tb
  refine ⟨F, S, fw.fh, fw.pn, fun F1 H2 f0 => ⟨F1, ρ, S, st.fwd (fw.trans f0), ?_⟩⟩
  unfold heardM at p
  cases z : f ρ S with
  | stuck => simp only [z] at p; exact p
  | ok d S' =>
    simp only [z] at p
    intro F' H' v f1 r
    exact ⟨F', d, S', f1, r, fun F'' H'' v'' f2 r2 => p _ _ _ (fw.trans (f0.trans (f1.trans f2))) r2⟩
  | exc c fs S' =>
    simp only [z] at p
    intro F' H' dx fv f1 hx rf
    obtain ⟨d, ed, q⟩ := p.ofO
    unfold heardD at ed
    cases z1 : hk.lookup c with
    | none => rw [z1] at ed; cases ed
    | some w =>
      rw [z1] at ed
      have ed : (mapO (fun x => fs.lookup x) w.2).map (fun ds => D.tup (.str w.1 :: ds)) = some d := ed
      cases z2 : mapO (fun x => fs.lookup x) w.2 with
      | none => rw [z2] at ed; cases ed
      | some ds =>
        rw [z2] at ed; cases ed
        obtain ⟨vs, hvs, rvs⟩ := repF_all rf z2
        refine ⟨c, dx, fv, F', S', w, vs, rfl, rfl, hx, f1, z1, hvs, fun F'' H'' a f2 hp => q _ _ _ (fw.trans (f0.trans (f1.trans f2))) ?_⟩
        show Rep K g _ (.tup (.str w.1 :: ds)) (.ref a)
        simp only [Rep]
        exact ⟨a, _, rfl, hp, Reps.cons rep_str (Reps.mono f2.ff _ _ rvs)⟩
theorem lam_xok {T : Tx} {cs : CS} {N : List Str} {sc : Scope} {k : Nat} {scope : Scope} (o : XOk T g cs N sc E k X) (k1 : 1 ≤ k) (A : Around) (outer : List Env) (s : Shared) (H : Hp) (E' : XK) (f c' : Addr) (hr : Room k (A.deeper (LamX.lamEnv X scope s.heap.objs.size f c'))) :
    XOk { T with lam := false } g cs N scope E' k (LamX.lamCx X A outer s H E' scope f c') where
  n := o.n
  sc := rfl
  nd := o.nd
  calm := rfl
  room := hr
  room1 := hr.mono k1
  tk := takes_of rfl rfl rfl rfl
  wf := ⟨o.wf.fn, o.wf.free, o.wf.int, o.wf.str, o.wf.cls⟩
  lam := fun z => by cases z
  en := o.en
theorem pd_heard {T : Tx} {cs : CS} {N : List Str} {sc : Scope} {k : Nat} {scope : Scope} {body : Expr} {f : List (Option D) → M D} {p lpos pos : Pos} (o : XOk T g cs N sc E k X) (hl : T.lam = true) (hg : Gl X "_law_heard") (L : LamX.LamS X.env.scope scope)
    (hbody : ∀ (X' : Cx) (E' : XK), XOk { T with lam := false } g cs N scope E' k X' → PD X' g E' body f) :
    PD X g E (.Call (.Name "_law_heard" p) [.Lambda { posonlyargs := [], args := [], vararg := none, kwonlyargs := [], kw_defaults := [], kwarg := none, defaults := [] } body scope lpos] [] pos) (fun ρ => heardM T.hk (f ρ)) := by
  have lo := o.lam hl
  obtain ⟨c, P, gA, pg, bg, sg, dV, kV, doc, pm, cdv, ct, oc, an, od, osl, Ng, a, hm, hk, lk, hcd, hb, Sg, hN, hva, hd, hcl, hG, TB, hcode, hmT, hu⟩ := lo.ex
  exact PE.weak (LamX.pe_lamcall (T := g.T) (t := fun E' => tD X.K g E' f) hg hm hk lk hcd hb Sg hN hva hG TB hcode hmT hu lo.room L rfl (fun _ _ _ _ _ => rfl)
    (fun A outer s H E' fa c' hr => hbody _ E' (lam_xok o lo.k1 A outer s H E' fa c' hr)) rfl hd hcl) fun σ H Q h => heard_read h
end
end Pur

/-! PurLd: _law_heard(lambda a1=0: e): one parameter of a default, that the body does not read. Turned from HandS.Lambda and KE.KLam, which serve lambdas without parameters. -/
namespace Pur
open
    PySem PySem.Spec PyProof.Rows L2 LamX
/-- the lambda's function object, its defaults at T -/
abbrev fnLd (qual : Str) (params : Arguments) (body : Expr) (scope : Scope) (cl : List (Str × Addr)) (pm cdv ct dv : Value) : FuncData := { PySem.W.kla_fn "<lambda>" qual params body scope cl pm cdv ct with defaults := dv }
abbrev obLd (qual : Str) (params : Arguments) (body : Expr) (scope : Scope) (cl : List (Str × Addr)) (pm cdv ct dv : Value) : Obj := { cls := .type "function", data := .func (fnLd qual params body scope cl pm cdv ct dv) }
section
variable {M : Model} {A : Around} {E : Value → Shared → Prop} {s : Shared} {qual : Str} {params : Arguments} {body : Expr} {scope : Scope} {env : Env} {c P : Addr} {ps : Array Value} {pos : Pos} {line : Nat} {mg : Str → Option Value} {cl : List (Str × Addr)} {Q : Value → Shared → Prop} {dv : Value}
theorem ld_new (h1 : closureFor scope env = pure cl) (h2 : env.globals = mainGlobals) (hg : s.heap.Ns mainGlobals mg) (hcode : env.code = .ref c) (C : PySem.W.CodeHd s.heap c P) (hP : s.heap.get? P = some (PySem.W.tabObj ps)) (ht : TriplesOk ps.toList)
    (hnf
        : codeAmong pos ps.toList = none) (hgP : mainGlobals ≠ P) (hb : s.heap.BuiltinsAt mg P)
    (h : ∀ c' ctv h' tk, Heap.ExtBut P s.heap h' → s.heap.objs.size ≤ c' → c' < h'.objs.size → h'.CodeRec (.ref c') qual → h'.get? P = some (PySem.W.tabObj (ps ++ #[rawInt pos.line, rawInt pos.col, .ref c'])) →
      Q (.ref h'.objs.size) { s with heap := h'.push (obLd qual params body scope cl ((mg "__name__").getD .none) (.ref c') ctv dv), toks := tk }) :
    wpAny M A (makeTail "<lambda>" qual params (.expr body) scope env dv .none none pos line) Q E s := by
  obtain ⟨bm, ob, q1, q2, _, q3, q4, q5, q6, q7⟩ := hb
  unfold makeTail
  rw [h1, h2]
  refine
      wpAny_bind (wpAny_pure ?_)
  cases cl with
  | nil =>
    simp
        only [List.isEmpty_nil, if_true]
    refine
        wpAny_bind (wpAny_pure ?_)
    refine
        wpAny_bind (wpAny_functionCodeX hcode (C.code hP ht) (C.tab hP) hnf fun c' h' tk hx hge hlt _ hrec htb _ => ?_)
    have hg' := hg.extBut hx hgP
    refine wpAny_bind (wpAny_builtinsFor hg' q1 q2 (hx _ _ q3 q4) q5 q6 q7 ?_)
    refine
        wpAny_bind (wpAny_nsGet hg' ?_)
    exact
        wpAny_bind (wpAny_pure (wpAny_newObj_type (h c' .none h' tk hx hge hlt hrec htb.2) (by size_fits)))
  | cons q r =>
    simp
        only [List.isEmpty_cons, Bool.false_eq_true, if_false]
    have kp : ∀ (oT : Obj) b o, s.heap.get? b = some o → (s.heap.push oT).get? b = some o := fun oT b o e => Heap.get?_push_of_some _ e
    refine
        wpAny_bind (wpAny_newTextTuple ?_)
    refine wpAny_bind (wpAny_functionCodeX hcode ((C.keeps (kp _)).code (kp _ _ _ hP) ht) ((C.keeps (kp _)).tab (kp _ _ _ hP)) hnf fun c' h' tk hx hge hlt _ hrec htb _ => ?_)
    have
        hg' := (hg.push _).extBut hx hgP
    have hx' : Heap.ExtBut P s.heap h' := fun b o n e => hx b o n (kp _ _ _ e)
    have
        hge' : s.heap.objs.size ≤ c' := Nat.le_trans (by rw [Heap.size_push]; omega) hge
    refine wpAny_bind (wpAny_builtinsFor hg' q1 q2 (hx' _ _ q3 q4) q5 q6 q7 ?_)
    refine
        wpAny_bind (wpAny_nsGet hg' ?_)
    exact
        wpAny_bind (wpAny_pure (wpAny_newObj_type (h c' _ h' tk hx' hge' hlt hrec htb.2) (by size_fits)))
theorem ld_hit {cv : Value} (h1 : closureFor scope env = pure cl) (h2 : env.globals = mainGlobals) (hg : s.heap.Ns mainGlobals mg) (hcode : env.code = .ref c) (C : PySem.W.CodeHd s.heap c P) (hP : s.heap.get? P = some (PySem.W.tabObj ps)) (ht : TriplesOk ps.toList)
    (hf
        : codeAmong pos ps.toList = some cv) (hb : s.heap.BuiltinsAt mg P)
    (h : ∀ (ctv : Value) (h' : Heap) (tk : Tok), (∀ b o, s.heap.get? b = some o → h'.get? b = some o) → s.heap.objs.size ≤ h'.objs.size → Q (.ref h'.objs.size) { s with heap := h'.push (obLd qual params body scope cl ((mg "__name__").getD .none) cv ctv dv), toks := tk }) :
    wpAny M A (makeTail "<lambda>" qual params (.expr body) scope env dv .none none pos line) Q E s := by
  obtain ⟨bm, ob, q1, q2, _, q3, q4, q5, q6, q7⟩ := hb
  unfold makeTail
  rw [h1, h2]
  refine
      wpAny_bind (wpAny_pure ?_)
  cases cl with
  | nil =>
    simp
        only [List.isEmpty_nil, if_true]
    refine
        wpAny_bind (wpAny_pure ?_)
    refine
        wpAny_bind (wpAny_functionCode_hit hcode (C.code hP ht) hf ?_)
    refine wpAny_bind (wpAny_builtinsFor hg q1 q2 q4 q5 q6 q7 ?_)
    refine
        wpAny_bind (wpAny_nsGet hg ?_)
    exact
        wpAny_bind (wpAny_pure (wpAny_newObj_type (h .none s.heap s.toks (fun _ _ e => e) (Nat.le_refl _)) (by size_fits)))
  | cons q r =>
    simp
        only [List.isEmpty_cons, Bool.false_eq_true, if_false]
    have kp : ∀ (oT : Obj) b o, s.heap.get? b = some o → (s.heap.push oT).get? b = some o := fun oT b o e => Heap.get?_push_of_some _ e
    refine
        wpAny_bind (wpAny_newTextTuple ?_)
    refine wpAny_bind (wpAny_functionCode_hit hcode ((C.keeps (kp _)).code (kp _ _ _ hP) ht) hf ?_)
    refine wpAny_bind (wpAny_builtinsFor (hg.push _) q1 q2 (kp _ _ _ q4) q5 q6 q7 ?_)
    refine
        wpAny_bind (wpAny_nsGet (hg.push _) ?_)
    have
        hsz : ∀ oT : Obj, s.heap.objs.size ≤ (s.heap.push oT).objs.size := fun oT => by rw [Heap.size_push]; omega
    exact wpAny_bind (wpAny_pure (wpAny_newObj_type (h _ _ s.toks (kp _) (hsz _)) (by size_fits)))
end
/-- one parameter y of its own, that stands for no name of the def's; no cell; the rest captured or global -/
structure LamD (N : List Str) (sc scope : Scope) (y : Str) : Prop where
  kind : scope.kind = .function
  co
      : scope.isCoroutine = false
  gen
      : scope.isGenerator = false
  own : ∀ z ∈ scope.names, z.2 ≠ .cell ∧ (z.2 = .local → z.1 = y)
  par : scope.names.lookup y = some .local
  out : y ∉ N
  free : ∀ z ∈ scope.names, z.2 = .free → sc.names.lookup z.1 = some .cell ∨ sc.names.lookup z.1 = some .free
theorem lamD_by {N : List Str} {sc scope : Scope} {y : Str} (h : lamDB N sc scope y = true) : LamD N sc scope y := by
  unfold lamDB at h
  simp
      only [Bool.and_eq_true, Bool.or_eq_true, Bool.not_eq_true', decide_eq_true_eq, decide_eq_false_iff_not, List.all_eq_true] at h
  obtain ⟨h1, h2, h3, h4, h5, h6⟩ := h
  refine ⟨h1, h2, h3, fun z hz => ⟨(h6 z hz).1, fun e => ?_⟩, h4, h5, fun z hz e => ?_⟩
  · rcases (h6 z hz).2.1 with q | q
    · exact absurd e q
    · exact q
  · rcases (h6 z hz).2.2 with q | q | q
    · exact absurd e q
    · exact .inl q
    · exact .inr q
theorem LamD.has {X : Cx} {scope : Scope} {y : Str} (L : LamD X.N X.env.scope scope y) (ok : X.Ok) : ∀ z ∈ scope.names, z.2 = .free → ∃ c, X.env.cells.lookup z.1 = some c := fun z hz e => by
  rcases L.free z hz e with k | k
  · exact ok.has _ (.inl k)
  · exact ok.has _ (.inr k)
section
variable
    {X : Cx} {pins : List (Addr × Obj)} {σ : L2.St} {H HZ : Hp} {s s1 : Shared}
/-- the lambda's function object is made, its defaults stand at tt -/
theorem ld_tail {T : List (Addr × Str)} {c P tt : Addr} {oT : Obj} {params : Arguments} {body : Expr} {scope : Scope} {pos : Pos} {line : Nat} {E : Value → Shared → Prop} {Q : Value → Shared → Prop} (I : Inv X pins σ H s) (TB : LamX.TabB X.base X.mg c P) (hcode : X.env.code = .ref c)
    (hm : (P, X.env.qual ++ "<lambda>") ∈ T) (hu : ∀ p ∈ T, p.1 = P → p.2 = X.env.qual ++ "<lambda>") (hT : Tabs T H) (hfree : ∀ y ∈ scope.names, y.2 = .free → ∃ c, X.env.cells.lookup y.1 = some c) (gT : s.heap.get? tt = some oT) (nT : H tt = none)
    (h
        : ∀ (f c' : Addr) (pm ctv : Value) (H1 : Hp) (s' : Shared), Inv X pins σ H1 s' → ExtN H H1 → Tabs T H1 →
      s'.heap.get? f = some (obLd (X.env.qual ++ "<lambda>") params body scope (cloFrom X.env.cells scope.names []) pm (.ref c') ctv (.ref tt)) → H1 f = none → f ∉ frs X.stack →
      s'.heap.get? tt = some oT → H1 tt = none → H1 c' = some (CodeO c' (X.env.qual ++ "<lambda>")) → Q (.ref f) s') :
    wpAny (model X.prog X.w) X.A (makeTail "<lambda>" (X.env.qual ++ "<lambda>") params (.expr body) scope X.env (.ref tt) .none none pos line) Q E s := by
  obtain
      ⟨ps, hP, ht, ha⟩ := hT _ hm
  have
      bP : s.heap.BuiltinsAt X.mg P := TB.bm.keeps I.bk
  have
      hP' : s.heap.get? P = some { cls := .none, data := .fields ps } := I.hok P _ hP
  have
      nofr : ∀ f, s.heap.objs.size ≤ f → f ∉ frs X.stack := fun f hf z => by
    rcases
        List.mem_cons.mp (I.stkSub _ z) with e | e
    · have h1 := I.lt
      rw [← e] at h1
      exact
          Nat.lt_irrefl _ (Nat.lt_of_lt_of_le h1 hf)
    · exact I.nofs hf e
  have lT : tt < s.heap.objs.size := Heap.lt_size gT
  have nTP : tt ≠ P := fun z => by rw [z, hP] at nT; cases nT
  cases
      hc : codeAmong pos ps.toList with
  | none =>
    refine ld_new (mg := X.mg) (c := c) (P := P) (ps := ps) (closure_ok hfree) I.ok.glob (I.mod.glob.keeps I.bk) hcode (TB.code.keeps I.bk) hP' ht hc TB.gP bP fun c' ctv h' tk hx hge hlt hrec htb => ?_
    obtain
        ⟨c2, oc, vs, t, e2, hoc, hd, hv⟩ := hrec
    cases e2
    have
        hsz : s.heap.objs.size ≤ h'.objs.size := Nat.le_trans hge (Nat.le_of_lt hlt)
    have
        nC : H c' = none := I.hok.fresh hge
    have I1 := inv_table (t' := tk) (more := #[rawInt pos.line, rawInt pos.col, .ref c']) (h' := h'.push (obLd (X.env.qual ++ "<lambda>") params body scope (cloFrom X.env.cells scope.names []) ((X.mg "__name__").getD .none) (.ref c') ctv (.ref tt))) I hP
      (fun
          b o hb e => Heap.get?_push_of_some _ (hx b o hb e)) (Heap.get?_push_of_some _ htb) hge ⟨oc, vs, t, Heap.get?_push_of_some _ hoc, hd, hv⟩
    have
        hE : ExtN H (upd (upd H P (.tbl (ps ++ #[rawInt pos.line, rawInt pos.col, .ref c']))) c' (CodeO c' (X.env.qual ++ "<lambda>"))) := fun b o e n => by
      rw
          [upd_ne (ne_of_none e nC), upd_ne (fun z => n ps (Option.some.inj (e.symm.trans (by rw [z]; exact hP))))]
      exact e
    have
        eL : (ps ++ #[rawInt pos.line, rawInt pos.col, .ref c']).toList = ps.toList ++ [rawInt pos.line, rawInt pos.col, .ref c'] := by simp
    have nTc : tt ≠ c' := Nat.ne_of_lt (Nat.lt_of_lt_of_le lT hge)
    refine h h'.objs.size c' ((X.mg "__name__").getD .none) ctv _ _ I1 hE (fun p hp => ?_) (Heap.get?_push_size _ rfl) ?_ (nofr _ hsz) (Heap.get?_push_of_some _ (hx _ _ nTP gT)) (by rw [upd_ne nTc, upd_ne nTP]; exact nT) upd_same
    · by_cases hb : p.1 = P
      · rw [hu p hp hb, hb]
        refine
            ⟨_, by rw [upd_ne (ne_of_none hP nC), upd_same], by rw [eL]; exact PySem.TriplesOk_snoc _ _ _ _ ht, fun p' cv hcv => ?_⟩
        rw [eL] at hcv
        rcases
            among_app _ ht hcv with z | z
        · obtain
              ⟨c0, e1, e2⟩ := ha p' cv z
          exact
              ⟨c0, e1, hE _ _ e2 codeO_ne⟩
        · exact ⟨c', z, upd_same⟩
      · obtain
            ⟨ps', a1, a2, a3⟩ := hT p hp
        refine
            ⟨ps', by rw [upd_ne (ne_of_none a1 nC), upd_ne hb]; exact a1, a2, fun p' cv hcv => ?_⟩
        obtain
            ⟨c0, e1, e2⟩ := a3 p' cv hcv
        exact
            ⟨c0, e1, hE _ _ e2 codeO_ne⟩
    · have
          n1 : h'.objs.size ≠ c' := Nat.ne_of_gt hlt
      have
          n2 : h'.objs.size ≠ P := Nat.ne_of_gt (Nat.lt_of_lt_of_le (Heap.lt_size hP') hsz)
      rw [upd_ne n1, upd_ne n2]
      exact I.hok.fresh hsz
  | some cv =>
    obtain
        ⟨c', e, hco⟩ := ha pos cv hc
    subst e
    refine ld_hit (mg := X.mg) (c := c) (P := P) (ps := ps) (closure_ok hfree) I.ok.glob (I.mod.glob.keeps I.bk) hcode (TB.code.keeps I.bk) hP' ht hc bP fun ctv h' tk hx hsz => ?_
    have I1 : Inv X pins σ H { s with heap := h'.push (obLd (X.env.qual ++ "<lambda>") params body scope (cloFrom X.env.cells scope.names []) ((X.mg "__name__").getD .none) (.ref c') ctv (.ref tt)), toks := tk } := I.kept fun b o e => Heap.get?_push_of_some _ (hx b o e)
    exact h h'.objs.size c' ((X.mg "__name__").getD .none) ctv H _ I1 (ExtN.refl H) hT (Heap.get?_push_size _ rfl) (I.hok.fresh hsz) (nofr _ hsz) (Heap.get?_push_of_some _ (hx _ _ gT)) nT hco
/-- the lambda is made -/
theorem ld_make {T : List (Addr × Str)} {c P : Addr} {params : Arguments} {body : Expr} {scope : Scope} {pos : Pos} {E : Value → Shared → Prop} {Q : Value → Shared → Prop} {i : Int} {de : Expr} (I : Inv X pins σ H s) (TB : LamX.TabB X.base X.mg c P) (hcode : X.env.code = .ref c)
    (hm : (P, X.env.qual ++ "<lambda>") ∈ T) (hu : ∀ p ∈ T, p.1 = P → p.2 = X.env.qual ++ "<lambda>") (hT : Tabs T H) (hdef : defaultsOf params X.env = ([eval de X.env], [])) (hde : PE X de (tC (.int i))) (hfree : ∀ y ∈ scope.names, y.2 = .free → ∃ c, X.env.cells.lookup y.1 = some c)
    (h : ∀ (f c' tt : Addr) (pm ctv : Value) (t : Tok) (H1 : Hp) (s' : Shared), Inv X pins σ H1 s' → ExtN H H1 → Tabs T H1 →
      s'.heap.get? f = some (obLd (X.env.qual ++ "<lambda>") params body scope (cloFrom X.env.cells scope.names []) pm (.ref c') ctv (.ref tt)) → H1 f = none → f ∉ frs X.stack →
      s'.heap.get? tt = some { cls := .type "tuple", data := .seq #[.int i t] } → H1 tt = none → tt ∉ frs X.stack → H1 c' = some (CodeO c' (X.env.qual ++ "<lambda>")) → Q (.ref f) s')
    (hE : ∀ u s', X.xe u s' → E u s') :
    wpAny
        (model X.prog X.w) X.A (eval (.Lambda params body scope pos) X.env) Q E s := by
  rw [arm_eval_Lambda, hdef]
  show wpAny _ _ (do let dv ← evalAll [eval de X.env]; let kdv ← holding dv (evalAllOpt []); makeFunction "<lambda>" (X.env.qual ++ "<lambda>") params (.expr body) scope X.env dv kdv [] pos pos.line) Q E s
  have ha : wpAny (model X.prog X.w) X.A (evalAll [eval de X.env]) (fun us s' => ∃ t, us = [Value.int i t] ∧ Inv X pins σ H s') X.xe s := by
    refine wpAny_evalAll_cons (thn (hde.run pins s σ H (fun v H1 => v = .int i ∧ H1 = H) I ⟨rfl, rfl⟩) fun u s1 ⟨v, H1, I1, r1, q1⟩ => wpAny_evalAll_nil ?_)
    obtain ⟨ev, eH⟩ := q1
    subst ev
    rw [eH] at I1
    obtain ⟨t, rfl⟩ := r1
    exact ⟨t, rfl, I1⟩
  refine wpAny_bind (wpAny_mono ha (fun us s0 hq => ?_) hE)
  obtain ⟨t, rfl, I0⟩ := hq
  refine
      wpAny_bind (wpAny_holding (wpAny_pure ?_))
  rw [makeFunction_eq]
  simp only [List.zip_nil_right, List.filterMap_nil, List.isEmpty_nil, List.isEmpty_cons, Bool.false_eq_true, if_true, if_false, pure_bind]
  refine
      wpAny_bind (wpAny_newTextTuple ?_)
  have I2 : Inv X pins σ H { s0 with heap := s0.heap.push { cls := .type "tuple", data := .seq #[.int i t] } } := I0.kept fun b o e => Heap.get?_push_of_some _ e
  have nofr : s0.heap.objs.size ∉ frs X.stack := fun z => by
    rcases List.mem_cons.mp (I0.stkSub _ z) with e | e
    · have h1 := I0.lt
      rw [← e] at h1
      exact Nat.lt_irrefl _ h1
    · exact I0.nofs (Nat.le_refl _) e
  exact ld_tail I2 TB hcode hm hu hT hfree (Heap.get?_push_size _ rfl) (I0.hok.fresh (Nat.le_refl _)) fun f c' pm ctv H1 s' J eN T1 hf hfn hfr gt nt hco => h f c' _ pm ctv t H1 s' J eN T1 hf hfn hfr gt nt nofr hco
/-- its body is entered -/
theorem ld_start {A : Around} {outer : List Env} {E : XK} {scope : Scope} {f c' : Addr} {h₁ : Heap} {tk : Nat} {y0 : Str} {u0 : Value} (I : Inv X pins σ H s) (L : LamD X.N X.env.scope scope y0) (e0 : Env0 X.prog X.w X.K X.mg X.base A outer s1 HZ) (hd : A.handled = none)
    (un : Un (frs X.stack) [] H HZ s.heap s1.heap) (hns : h₁.Ns s1.heap.objs.size fun y => ([(y0, u0)] : List (Str × Value)).reverse.lookup y) (kp : ∀ b o, s1.heap.get? b = some o → h₁.get? b = some o) :
    Inv
        (lamCx X A outer s1 HZ E scope f c') [] σ HZ { s1 with heap := h₁, toks := tk } := by
  have hfree := L.has I.ok
  have
      cm : ∀ {y c}, (cloFrom X.env.cells scope.names []).lookup y = some c → X.env.cells.lookup y = some c := fun {y c} e => by
    rcases
        cloFrom_mem (PySem.mem_of_lookup e) with hm | ⟨h1, h2⟩
    · cases hm
    · obtain
          ⟨c1, hc⟩ := hfree _ h1 rfl
      have
          hc : X.env.cells.lookup y = some c1 := hc
      have e2 : c = c1 := by
        rw [h2, hc] <;> rfl
      rw [e2]
      exact hc
  have
      look : ∀ {y}, scope.names.lookup y = some .free → ∃ c, (cloFrom X.env.cells scope.names []).lookup y = some c := fun {y} hl => by
    have
        hy : (y, NameKind.free) ∈ scope.names := PySem.mem_of_lookup hl
    exact
        mem_lookup (cloFrom_has (cells := X.env.cells) (acc := []) hy)
  have
      cellK : ∀ {c : Addr} {v : Option Value}, H c = none → s.heap.IsCell c v → h₁.IsCell c v := fun {c v} n ⟨o, ho, hd⟩ => by
    obtain
        ⟨sl, q⟩ := un.any ho n (by simp)
    exact ⟨_, kp _ _ q, hd⟩
  have
      noA : ∀ b : Addr, b ∉ (lamCx X A outer s1 HZ E scope f c').ex := fun b z => absurd (show b ∈ ([] : List Addr) from z) (by simp)
  refine
      ⟨⟨e0.mod, L.kind, rfl, rfl, Nat.le_refl _, fun y z c e1 e2 => I.ok.inj y z c (cm e1) (cm e2), fun y hy => ?_, fun y c z _ => ?_, fun _ => hd, Around.frames_deeper e0.frames, .inr ⟨rfl, rfl⟩, fun b z => absurd z (noA b), e0.bs, e0.bsz, fun b _ _ => noA b,
      fun
          b z => absurd z (noA b), e0.funs, e0.frf⟩,
    rfl,
        e0.bare, Un.kept kp, ⟨_, hns, fun i y v e1 e2 e3 => ?_⟩, fun y c e => ?_, e0.hok.fresh (Nat.le_refl _), fun y c e => ?_, fun q hq => absurd (show q ∈ ([] : List (Addr × Obj)) ++ [] from hq) (by simp), e0.hok.kept kp, I.len⟩
  · have
        hy : scope.names.lookup y = some .cell ∨ scope.names.lookup y = some .free := hy
    rcases hy with hy | hy
    · exact absurd rfl (L.own _ (PySem.mem_of_lookup hy)).1
    · exact look hy
  · have z : false = true := z
    cases z
  · have e3 : Vis scope y := e3
    have e1 : X.N[i]? = some y := e1
    rcases e3 with k | k | k
    · have := (L.own _ (PySem.mem_of_lookup k)).2 rfl
      dsimp only at this
      subst this
      exact absurd (List.mem_of_getElem? e1) L.out
    · exact
          absurd rfl (L.own _ (PySem.mem_of_lookup k)).1
    · obtain ⟨m, hn, hl⟩ := I.loc
      have
          hvis : Vis X.env.scope y := (L.free _ (PySem.mem_of_lookup k) rfl).elim (fun k => .inr (.inl k)) (fun k => .inr (.inr k))
      obtain
          ⟨w', r, q⟩ := hl i y v e1 e2 hvis
      obtain ⟨c2, h2⟩ := look k
      refine
          ⟨w', r, .inr ⟨.inr k, c2, h2, ?_⟩⟩
      have c1 := cm h2
      rcases
          q with ⟨k', _⟩ | ⟨_, c3, e', z⟩
      · have
            k' : X.env.scope.names.lookup y = some .local := k'
        rcases
            L.free _ (PySem.mem_of_lookup k) rfl with k2 | k2 <;> rw [show X.env.scope.names.lookup y = _ from k2] at k' <;> cases k'
      · rw [c1] at e'
        cases e'
        exact
            cellK (I.freeC y _ c1) z
  · obtain
        ⟨w', z⟩ := I.cell y c (cm e)
    exact
        ⟨w', cellK (I.freeC y c (cm e)) z⟩
  · obtain
        ⟨v, o, ho, hd⟩ := I.cell y c (cm e)
    exact
        un.free c o ho (I.freeC y c (cm e)) (by simp)
/-- x(), in the def that got the lambda -/
theorem ld_act {CXg : CXT} {Eg : XK} {Ng : List Str} {qg : Str} {sg : Scope} {g f c' tt : Addr} {cdg pm ctv : Value} {params : Arguments} {body : Expr} {scope : Scope} {k i : Nat} {a : Str} {pn : List (Addr × Obj)} {xe : Value → Shared → Prop} {W : WX} {E : XK} {tb : TE} {p1 p2 : Pos} {y0 : Str} {j : Int} {t : Tok}
    (I : Inv X pins σ H s) (L : LamD X.N X.env.scope scope y0) (hf : s.heap.get? f = some (obLd (X.env.qual ++ "<lambda>") params body scope (cloFrom X.env.cells scope.names []) pm (.ref c') ctv (.ref tt))) (hfn : H f = none) (hfr : f ∉ frs X.stack)
    (ht : s.heap.get? tt = some { cls := .type "tuple", data := .seq #[.int j t] }) (htn : H tt = none) (htr : tt ∉ frs X.stack)
    (hbind : ∀ s' : Shared, s'.heap.get? tt = some { cls := .type "tuple", data := .seq #[.int j t] } → BindsTo s' (fnLd (X.env.qual ++ "<lambda>") params body scope (cloFrom X.env.cells scope.names []) pm (.ref c') ctv (.ref tt)) ⟨[], []⟩ [(y0, .int j t)])
    (tk
        : Takes ((cxOf CXg X.prog X.w X.K X.mg X.base Ng qg sg g cdg X.A X.stack s H Eg).tr pn xe) W) (hW : ∀ cls d σ' H', E cls d H' → W cls d σ' H') (hr : Room (k + 1) (X.A.deeper (envOfC qg sg s.heap.objs.size g cdg)))
    (hbody
        : ∀ (A : Around) (outer : List Env) (s : Shared) (H : Hp), Room k (A.deeper (lamEnv X scope s.heap.objs.size f c')) → PE (lamCx X A outer s H E scope f c') body tb)
    (hN : Ng[i]? = some a) (hv : Vis sg a) (hd : (a == ("__debug__" : Str)) = false) (hcd : (a == ("__classdict__" : Str)) = false) :
    PE
        ((cxOf CXg X.prog X.w X.K X.mg X.base Ng qg sg g cdg X.A X.stack s H Eg).tr pn xe) (.Call (.Name a p1) [] [] p2)
      (fun
          σZ HZ Q => σZ[i]? = some (some (.ref f)) ∧ HZ c' = some (CodeO c' (X.env.qual ++ "<lambda>")) ∧ tb σ HZ Q) := by
  refine
      ⟨fun pinsZ sZ σZ HZ Q IZ h => ?_⟩
  obtain ⟨hs, hc, hq0⟩ := h
  refine
      wpAny_Call_Name_kw (thn ((pe_var (pos := p1) (i := i) hN hv hd hcd).run pinsZ sZ σZ HZ (fun v H1 => v = .ref f ∧ H1 = HZ) IZ ⟨.ref f, hs, rfl, rfl⟩) fun u s1 ⟨v, H1, I1, r1, q1⟩ => ?_)
  obtain ⟨ev, eH⟩ := q1
  subst ev
  rw [eH] at I1
  obtain
      rfl : u = Value.ref f := r1
  have of1 : s1.heap.get? f = some (obLd (X.env.qual ++ "<lambda>") params body scope (cloFrom X.env.cells scope.names []) pm (.ref c') ctv (.ref tt)) := I1.base.keep f _ hf hfn hfr (fun z => nomatch (show f ∈ ([] : List Addr) from z))
  have ot1 : s1.heap.get? tt = some { cls := .type "tuple", data := .seq #[.int j t] } := I1.base.keep tt _ ht htn htr (fun z => nomatch (show tt ∈ ([] : List Addr) from z))
  refine
      PySem.W.callWith_F0 ⟨_, _, _, _, of1⟩ ?_
  have
      un : Un (frs X.stack) [] H HZ s.heap s1.heap := I1.base
  obtain ⟨⟨oc, vs, t1, hoc, hdc, hvc⟩, _, _⟩ := I1.hok c' _ hc
  have
      rc : codeAny (model X.prog X.w) (X.A.deeper (envOfC qg sg s.heap.objs.size g cdg)) (.call (.ref f) ⟨[], []⟩) (CR (L2.CX X.prog X.w) (envOfC qg sg s.heap.objs.size g cdg :: X.stack) X.prog X.w HZ s1 Q E) s1 := by
    refine PySem.W.kla_callFunE hr.depth of1 rfl L.co L.gen rfl ⟨c', oc, vs, t1, rfl, hoc, hdc, hvc⟩ ?_
    refine hbind s1 ot1 _ _ _ _ ?_
    refine wpAny_newFunctionEnv (fun y hy => (L.own y hy).1) (fun y hy => ?_) (fun h₁ hns hsb => ⟨I1.nolimit.fresh _ hsb, ?_⟩) L.kind
    · rw [List.mem_singleton.mp hy]; exact L.par
    show
        codeAny _ _ (.expr body (lamEnv X scope s1.heap.objs.size f c')) _ _
    have
        kp : ∀ b o, s1.heap.get? b = some o → h₁.get? b = some o := fun b o e => hsb.extBut b o (Nat.ne_of_lt (Heap.lt_size e)) (Heap.get?_push_of_some _ e)
    have J := ld_start (A := X.A.deeper (envOfC qg sg s.heap.objs.size g cdg)) (outer := envOfC qg sg s.heap.objs.size g cdg :: X.stack) (E := E) (f := f) (c' := c') (tk := s1.toks + ([(y0, Value.int j t)] : List (Str × Value)).length) I L I1.env0 hr.hd un hns kp
    refine PySem.W.kla_codeExpr (wpAny_mono ((hbody _ _ s1 HZ (hr.deeper _)).run [] _ _ HZ Q J hq0) (fun v s' hq => ?_) fun e s' hq => hq)
    obtain
        ⟨w', H', J', rv, q⟩ := hq
    exact
        ⟨w', H', J'.os, J'.bare, J'.base, J'.hok, rv, q⟩
  have
      hx : Passes (L2.CX X.prog X.w) ((cxOf CXg X.prog X.w X.K X.mg X.base Ng qg sg g cdg X.A X.stack s H Eg).tr pn xe) E := passes_call tk hW
  refine
      wpAny_call (codeAny_mono rc fun r s' hq => ?_)
  cases r with
  | error e =>
        exact hx pinsZ σZ HZ s1 e s' I1 hq
  | ok fl =>
    cases fl with
    | ret u => exact I1.after hq
    | next => exact False.elim hq
    | brk => exact False.elim hq
    | cont => exact False.elim hq
end
theorem ld_binds {q : Str} {ar : Arg} {de : Expr} {body : Expr} {scope : Scope} {cl : List (Str × Addr)} {pm cv ctv : Value} {tt : Addr} {j : Int} {t : Tok} {s : Shared} (ht : s.heap.get? tt = some { cls := .type "tuple", data := .seq #[.int j t] }) :
    BindsTo s (fnLd q { posonlyargs := [], args := [ar], vararg := none, kwonlyargs := [], kw_defaults := [], kwarg := none, defaults := [de] } body scope cl pm cv ctv (.ref tt)) ⟨[], []⟩ [(ar.arg, .int j t)] := by
  refine BindsTo.of_defaults rfl ht rfl rfl ?_
  simp
section
variable {X : Cx}
/-- x(lambda y=0: body) -/
theorem ld_lamcall {T : List (Addr × Str)} {TT : (XK → Hp → VK → Prop) → Hp → VK → Prop} {x a : Str} {g c P : Addr} {k : Nat} {pg : Arguments} {bg : List Stmt} {sg : Scope} {dV kV doc pm cdv ct oc : Value} {an od : Option Addr} {osl : Array (Option Value)} {Ng : List Str}
    {ar : Arg} {j : Int} {ck : Nat} {body : Expr} {scope : Scope} {t : XK → TE} {p lpos pos cpos : Pos} (hg : Gl X x) (hm : X.mg x = some (.ref g)) (hk : PySem.W.keepIn X.K (.ref g) = true)
    (lk
        : X.K.lookup g = some ⟨oc, od, .func (PySem.W.fnOf x x pg bg sg dV kV doc pm an cdv ct), osl⟩) (hcg : PySem.W.codeIn X.K cdv x = true) (hb : L2.Binds X.K (PySem.W.fnOf x x pg bg sg dV kV doc pm an cdv ct) [a] []) (Sg : FnScope Ng [a] sg) (hNg : Ng[0]? = some a) (hva : Vis sg a)
    (hG
        : GivesTo X Ng x sg g cdv bg a (X.env.qual ++ "<lambda>") TT)
    (TB : LamX.TabB X.base X.mg c P) (hcode : X.env.code = .ref c) (hmT : (P, X.env.qual ++ "<lambda>") ∈ T) (hu : ∀ p ∈ T, p.1 = P → p.2 = X.env.qual ++ "<lambda>") (hr : Room (k + 2) X.A) (L : LamD X.N X.env.scope scope ar.arg)
    (hbody
        : ∀ (A : Around) (outer : List Env) (s : Shared) (H : Hp) (E : XK) (f c' : Addr), Room k (A.deeper (lamEnv X scope s.heap.objs.size f c')) → PE (lamCx X A outer s H E scope f c') body (t E))
    (hdb : (x == ("__debug__" : Str)) = false) (hd : (a == ("__debug__" : Str)) = false) (hcd : (a == ("__classdict__" : Str)) = false) :
    PE X (.Call (.Name x p) [.Lambda { posonlyargs := [], args := [ar], vararg := none, kwonlyargs := [], kw_defaults := [], kwarg := none, defaults := [.Constant (.int j) ck cpos] } body scope lpos] [] pos) (tLam T TT t) := by
  refine
      ⟨fun pins s σ H Q I h => ?_⟩
  obtain ⟨hT, h⟩ := h
  refine
      wpAny_Call_Name_kw (ld_glob I hg hm ?_ hdb)
  refine
      PySem.W.callWith_K (h₀ := X.base) I.ok.mod.kin hk ?_ (by rfl) (by rfl)
  show wpAny _ _ (spliced ((false, eval (.Lambda { posonlyargs := [], args := [ar], vararg := none, kwonlyargs := [], kw_defaults := [], kwarg := none, defaults := [.Constant (.int j) ck cpos] } body scope lpos) X.env) :: backTo pos (starEach [] X.env))) _ _ s
  refine Calls.spliced_cons (ld_make (i := j) (de := .Constant (.int j) ck cpos) I TB hcode hmT hu hT rfl pe_int (L.has I.ok) (fun f c' tt pm' ctv t0 H1 s' I1 eN T1 hf hfn hfr ht htn htr hco => ?_) fun _ _ z => z)
  refine
      Calls.spliced_nil ⟨I1.kIn, ?_⟩
  have
      rc : codeAny (model X.prog X.w) X.A (.call (.ref g) ⟨[.ref f], []⟩) (CR C8.CX0 X.stack X.prog X.w H1 s' Q C8.E0) s' := by
    refine
        run_ofS (N := Ng) (ps := [a]) (us := [.ref f]) (vs := [.ref f]) lk hcg Sg hr I1.env0 (hb s' [.ref f] I1.kIn rfl) (.cons rfl .nil) rfl fun hr' => ?_
    obtain ⟨t', ht', hq'⟩ := hG f c' s' H1 Q (fun E H' Q' => t E σ H' Q') (fun W pn xe E p1 p2 tk hW => ld_act (i := 0) I1 L hf hfn hfr ht htn htr (fun s2 h2 => ld_binds h2) tk hW hr' (fun A outer s H hr2 => hbody A outer s H E f c' hr2) hNg hva hd hcd) hco (h H1 eN T1)
    exact ⟨t', ht'.nox, hq'⟩
  refine
      wpAny_call (codeAny_mono rc fun r s2 hq => ?_)
  cases r with
  | error e =>
        exact (show False from hq).elim
  | ok fl =>
    cases fl with
    | ret u => exact I1.after hq
    | next => exact False.elim hq
    | brk => exact False.elim hq
    | cont => exact False.elim hq
variable {g : G} {E : XK}
theorem pd_heardD {T : Tx} {cs : CS} {N : List Str} {sc : Scope} {k : Nat} {scope : Scope} {body : Expr} {f : List (Option D) → M D} {p lpos pos cpos : Pos} {ar : Arg} {j : Int} {ck : Nat} (o : XOk T g cs N sc E k X) (hl : T.lam = true) (hg : Gl X "_law_heard") (L : LamD X.N X.env.scope scope ar.arg)
    (hbody : ∀ (X' : Cx) (E' : XK), XOk { T with lam := false } g cs N scope E' k X' → PD X' g E' body f) :
    PD X g E (.Call (.Name "_law_heard" p) [.Lambda { posonlyargs := [], args := [ar], vararg := none, kwonlyargs := [], kw_defaults := [], kwarg := none, defaults := [.Constant (.int j) ck cpos] } body scope lpos] [] pos) (fun ρ => heardM T.hk (f ρ)) := by
  have lo := o.lam hl
  obtain ⟨c, P, gA, pg, bg, sg, dV, kV, doc, pm, cdv, ct, oc, an, od, osl, Ng, a, hm, hk, lk, hcd, hb, Sg, hN, hva, hd, hcl, hG, TB, hcode, hmT, hu⟩ := lo.ex
  exact PE.weak (ld_lamcall (T := g.T) (t := fun E' => tD X.K g E' f) hg hm hk lk hcd hb Sg hN hva hG TB hcode hmT hu lo.room L
    (fun A outer s H E' fa c' hr => hbody _ E' (lam_xok o lo.k1 A outer s H E' fa c' hr)) rfl hd hcl) fun σ H Q h => heard_read h
end
end Pur

/-! PurS: statements, over plain data. -/
namespace Pur
open
    PySem PySem.Spec PyProof.Rows L2
/-- what a name holds: plain data that never changes again, or a list of the def's own that may still be changed -/
inductive Sl where
  | val (d : D)
  | own (xs : List D)
abbrev Ev := List (Option Sl)
inductive Fl where
  | next (δ : Ev)
  | ret (d : D)
  | brk (δ : Ev)
  | cont (δ : Ev)
/-- a compiled statement -/
inductive CSt where
  | asg (t : CT) (e : CE)
  | own (i : Nat) (e : CE)
  | par (i j : Nat) (a b : CE)
  | par0 (i j : Nat)
  | app (i : Nat) (e : CE)
  | appIf (t : CE) (i j : Nat) (e : CE)
  | ext (i : Nat) (e : CE)
  | set (i : Nat) (k v : CE)
  | aug (i : Nat) (op : Operator) (e : CE)
  | ret (e : CE)
  | retN
  | ite (t : CE) (a b : List CSt)
  | for_ (t : CT) (it : CE) (body : List CSt)
  | whl (t : CE) (body : List CSt)
  | cont
  | brk
  | pass
  | drop (e : CE)
  | rais (x : Str) (args : List CE)
  | parL (i j : Nat) (e : CE)
  | popApp (i j : Nat) (e : CE)
  | set2 (i : Nat) (k1 k2 e : CE)
mutual
/-- the slots that an expression names -/
def men : CE → List Nat
  | .var i => [i]
  | .bin _ a b => men a ++ men b
  | .not a => men a
  | .neg a => men a
  | .and a b => men a ++ men b
  | .or a b => men a ++ men b
  | .isN a => men a
  | .notN a => men a
  | .cmp _ a b => men a ++ men b
  | .chain _ _ a b c => men a ++ men b ++ men c
  | .ite t a b => men t ++ men a ++ men b
  | .call _ args => mens args
  | .callK _ _ args => mens args
  | .callV i _ args => i :: mens args
  | .bi _ args => mens args
  | .tup es => mens es
  | .lst es => mens es
  | .ix a i => men a ++ men i
  | .sl a lo hi => men a ++ menO lo ++ menO hi
  | .lc _ _ it ifs elt => men it ++ mens ifs ++ men elt
  | .lc2 _ _ _ it ifs _ it1 ifs1 elt => men it ++ mens ifs ++ men it1 ++ mens ifs1 ++ men elt
  | .rev a => men a
  | .srtSet a => men a
  | .dict0 => []
  | .tupS es => menSt es
  | .srtDc _ _ it => men it
  | .heard _ e => men e
  | .att e _ => men e
  | .iRng1 a => men a
  | .iRng2 a b => men a ++ men b
  | .iZip a b => men a ++ men b
  | .iEnum a => men a
  | .iVal a => men a
  | .const _ => []
def mens : List CE → List Nat
  | [] => []
  | e :: es => men e ++ mens es
def menSt : List (Bool × CE) → List Nat
  | [] => []
  | (_, e) :: es => men e ++ menSt es
def menO : Option CE → List Nat
  | none => []
  | some e => men e
end
/-- the slots as values: an own list only where it is named -/
def vw (l : List Nat) (δ : Ev) : List (Option D) := δ.mapIdx fun i o => match o with
  | some (.val d) => some d
  | some (.own xs) => if l.contains i then some (.lst xs) else none
  | none => none
/-- own lists that are named change no more -/
def frz (l : List Nat) (δ : Ev) : Ev := δ.mapIdx fun i o => match o with
  | some (.own xs) => if l.contains i then some (.val (.lst xs)) else some (.own xs)
  | o => o
def ownAt (δ : Ev) (i : Nat) : Option (List D) := match δ[i]? with
  | some (some (.own xs)) => some xs
  | _ => none
mutual
def bindS : CT → D → Ev → Option Ev
  | .v i, d, δ => if i < δ.length then some (δ.set i (some (.val d))) else none
  | .t es, .tup ds, δ => bindSs es ds δ
  | _, _, _ => none
def bindSs : List CT → List D → Ev → Option Ev
  | [], [], δ => some δ
  | e :: es, d :: ds, δ => (bindS e d δ).bind fun δ' => bindSs es ds δ'
  | _, _, _ => none
end
/-- an expression's value, and the slots behind it -/
def evS (cs : CS) (e : CE) (δ : Ev) : M (D × Ev) := bnd (ev cs e (vw (men e) δ)) fun d => ret (d, if d.flat = true then δ else frz (men e) δ)
def evTS (cs : CS) (e : CE) (δ : Ev) : M Bool := bnd (ev cs e (vw (men e) δ)) fun d => ofO (truD d)
def isRng : CE → Bool
  | .iRng1 _ => true
  | .iRng2 _ _ => true
  | _ => false
def evIS (cs : CS) (it : CE) (δ : Ev) : M (List D × Ev) := bnd (evI cs it (vw (men it) δ)) fun ds => ret (ds, if isRng it = true then δ else frz (men it) δ)
def lstOf : D → Option (List D)
  | .lst xs => some xs
  | _ => none
def forGo (body : D → Ev → M Fl) : List D → Ev → M Fl
  | [], δ => ret (.next δ)
  | d :: ds, δ => bnd (body d δ) fun fl => match fl with
    | .next δ' => forGo body ds δ'
    | .cont δ' => forGo body ds δ'
    | .brk δ' => ret (.next δ')
    | .ret v => ret (.ret v)
def whlGo (t : Ev → M Bool) (body : Ev → M Fl) : Nat → Ev → M Fl
  | 0, _ => stuck
  | n + 1, δ => bnd (t δ) fun b => if b = true then bnd (body δ) fun fl => match fl with
      | .next δ' => whlGo t body n δ'
      | .cont δ' => whlGo t body n δ'
      | .brk δ' => ret (.next δ')
      | .ret v => ret (.ret v)
    else ret (.next δ)
def setAt (xs : List D) (k : D) (v : D) : Option (List D) := match k with
  | .int i => (L2.ixN xs.length i).map fun j => xs.set j v
  | _ => none
def augD : Operator → D → D → Option D
  | .Add, .int i, .int j => some (.int (i + j))
  | .Sub, .int i, .int j => some (.int (i - j))
  | _, _, _ => none
def isPen (δ : Ev) (i : Nat) : Bool := match δ[i]? with
  | some (some (.val .pen)) => true
  | _ => false
/-- pen[k] = v -/
def penSet (k v : D) : M Unit := fun s => match k, v with
  | .int i, .int z => if i = 1 then .ok () { s with at_ := z } else if i = 2 then .ok () { s with rest := z } else .stuck
  | _, _ => .stuck
/-- x[k] = d, x a list of the def's own -/
def setO1 (cs : CS) (i : Nat) (k : CE) (d : D) (δ : Ev) : M Ev := bnd (ofO (ownAt δ i)) fun _ => bnd (evS cs k δ) fun q => ofO ((ownAt q.2 i).bind fun xs => (setAt xs q.1 d).map fun ys => q.2.set i (some (.own ys)))
def twoD : D → Option (D × D)
  | .tup [a, b] => some (a, b)
  | _ => none
/-- x.append(y.pop(k)) -/
def popAppD (δ : Ev) (i j : Nat) : D → Option Fl
  | .int k => (ownAt δ i).bind fun xs => (ownAt δ j).bind fun ys => if i ≠ j ∧ 0 ≤ k ∧ k < ys.length ∧ k < 16777216 ∧ xs.length < 16777216 then (ys[k.toNat]?).map fun y => .next ((δ.set j (some (.own (ys.eraseIdx k.toNat)))).set i (some (.own (xs ++ [y])))) else none
  | _ => none
/-- an error is made: its fields by its class -/
abbrev MkE := Str → List D → Option (List (Str × D))
mutual
def ex (cs : CS) (mk : MkE) (W : Nat) : CSt → Ev → M Fl
  | .asg t e, δ => bnd (evS cs e δ) fun p => ofO ((bindS t p.1 p.2).map .next)
  | .own i e, δ => bnd (evS cs e δ) fun p => ofO ((lstOf p.1).bind fun xs => if i < p.2.length then some (.next (p.2.set i (some (.own xs)))) else none)
  | .par i j a b, δ => bnd (evS cs a δ) fun p => bnd (evS cs b p.2) fun q => if i < q.2.length ∧ j < q.2.length then ret (.next ((q.2.set i (some (.val p.1))).set j (some (.val q.1)))) else stuck
  | .par0 i j, δ => if i < δ.length ∧ j < δ.length then ret (.next ((δ.set i (some (.own []))).set j (some (.own [])))) else stuck
  | .app i e, δ => bnd (ofO (ownAt δ i)) fun _ => bnd (evS cs e δ) fun p => ofO ((ownAt p.2 i).bind fun xs => if xs.length < 16777216 then some (.next (p.2.set i (some (.own (xs ++ [p.1]))))) else none)
  | .appIf t i j e, δ => bnd (evTS cs t δ) fun c => bnd (ofO (ownAt δ (if c = true then i else j))) fun _ => bnd (evS cs e δ) fun p => ofO ((ownAt p.2 (if c = true then i else j)).bind fun xs => if xs.length < 16777216 then some (.next (p.2.set (if c = true then i else j) (some (.own (xs ++ [p.1]))))) else none)
  | .ext i e, δ => bnd (ofO (ownAt δ i)) fun _ => bnd (evS cs e δ) fun p => ofO ((ownAt p.2 i).bind fun xs => (lstOf p.1).bind fun ys => if xs.length + ys.length ≤ 16777216 then some (.next (p.2.set i (some (.own (xs ++ ys))))) else none)
  | .set i k v, δ => bnd (evS cs v δ) fun p => if isPen p.2 i = true then bnd (evS cs k p.2) fun q => bnd (penSet q.1 p.1) fun _ => ret (.next q.2) else bnd (ofO (ownAt p.2 i)) fun _ => bnd (evS cs k p.2) fun q => ofO ((ownAt q.2 i).bind fun xs => (setAt xs q.1 p.1).map fun ys => .next (q.2.set i (some (.own ys))))
  | .aug i op e, δ => bnd (ofO ((vw [] δ)[i]?).join) fun x => bnd (evS cs e δ) fun p => ofO ((augD op x p.1).bind fun z => if i < p.2.length then some (.next (p.2.set i (some (.val z)))) else none)
  | .ret e, δ => bnd (evS cs e δ) fun p => ret (.ret p.1)
  | .retN, _ => ret (.ret .non)
  | .ite t a b, δ => bnd (evTS cs t δ) fun c => if c = true then exs cs mk W a δ else exs cs mk W b δ
  | .for_ t it body, δ => bnd (evIS cs it δ) fun p => forGo (fun d δ' => bnd (ofO (bindS t d δ')) fun δ'' => exs cs mk W body δ'') p.1 p.2
  | .whl t body, δ => whlGo (evTS cs t) (exs cs mk W body) W δ
  | .cont, δ => ret (.cont δ)
  | .brk, δ => ret (.brk δ)
  | .pass, δ => ret (.next δ)
  | .drop e, δ => bnd (evS cs e δ) fun p => ret (.next p.2)
  | .rais x args, δ => bnd (evs cs args (vw (mens args) δ)) fun ds => match mk x ds with
    | some fs => fun s => .exc x fs s
    | none => stuck
  | .parL i j e, δ => bnd (evS cs e δ) fun p => ofO ((seqD p.1).bind fun xs => if i < p.2.length ∧ j < p.2.length then some (.next ((p.2.set i (some (.own xs))).set j (some (.own [])))) else none)
  | .popApp i j e, δ => bnd (ofO (ownAt δ i)) fun _ => bnd (ofO (ownAt δ j)) fun _ => bnd (evS cs e δ) fun p => ofO (popAppD p.2 i j p.1)
  | .set2 i k1 k2 e, δ => bnd (evS cs e δ) fun p => bnd (ofO (twoD p.1)) fun w => bnd (setO1 cs i k1 w.1 p.2) fun δ1 => bnd (setO1 cs i k2 w.2 δ1) fun δ2 => ret (.next δ2)
def exs (cs : CS) (mk : MkE) (W : Nat) : List CSt → Ev → M Fl
  | [], δ => ret (.next δ)
  | s :: r, δ => bnd (ex cs mk W s δ) fun fl => match fl with
    | .next δ' => exs cs mk W r δ'
    | .ret d => ret (.ret d)
    | .brk δ' => ret (.brk δ')
    | .cont δ' => ret (.cont δ')
end
/-- a def called -/
def runFn (cs : CS) (mk : MkE) (W : Nat) (n : Nat) (body : List CSt) (ds : List D) : M D :=
  bnd (exs cs mk W body (ds.map (fun d => some (.val d)) ++ List.replicate (n - ds.length) none)) fun fl => match fl with
    | .ret d => ret d
    | .next _ => ret .non
    | _ => stuck

/-! ### from the text -/
/-- the names that some statement changes in place -/
def mutN : Nat → List Stmt → List Str
  | 0, _ => []
  | n + 1, l => l.flatMap fun st => match st with
    | .Expr (.Call (.Attribute (.Name x _) m _) [.Call (.Attribute (.Name y _) _ _) _ _ _] _ _) _ => if m = "append" then [x, y] else []
    | .Expr (.Call (.Attribute (.Name x _) m _) _ _ _) _ => if m = "append" ∨ m = "extend" then [x] else []
    | .Expr (.Call (.Attribute (.IfExp _ (.Name x _) (.Name y _) _) m _) _ _ _) _ => if m = "append" then [x, y] else []
    | .Assign [.Subscript (.Name x _) _ _] _ _ => [x]
    | .Assign [.Tuple [.Subscript (.Name x _) _ _, .Subscript (.Name y _) _ _] _ _] _ _ => [x, y]
    | .If _ a b _ => mutN n a ++ mutN n b
    | .For _ _ body _ _ => mutN n body
    | .While _ body _ _ => mutN n body
    | _ => []
/-- a list that is made anew -/
def fresh : Expr → Bool
  | .List _ _ => true
  | .ListComp _ [_] _ _ => true
  | .Call (.Name f _) [_] [] _ => f == "list"
  | .BinOp (.List _ _) .Mult _ _ => true
  | _ => false
/-- list(e) -/
def isListC : Expr → Option Expr
  | .Call (.Name f _) [e] [] _ => if f = "list" then some e else none
  | _ => none
/-- as the machine says it: whether a, b = x, y is stored name by name -/
def swS (ts vs : List Expr) (sc : Scope) : Option (Option (List Str)) :=
  if (!(ts.length == 2 || ts.length == 3) || vs.length != ts.length) = true then some none
  else if (vs.any fun | .Starred .. => true | _ => false) = true then some none
  else
    let
        line := (ts.head?.map (·.pos.line)).getD 0
    let names := ts.filterMap fun
      | .Name id pos => if sc.names.lookup id == some .local && pos.line == line then some id else none
      | _ => none
    if (names.length != ts.length || names.eraseDups.length != names.length) = true then some none
    else if vs.all (foldedForSure 8) = true then some none
    else if vs.all (constantsAlone 8) = true then none
    else some (some names)
def isLC : Expr → Bool
  | .ListComp _ _ _ _ => true
  | .SetComp _ _ _ _ => true
  | .DictComp _ _ _ _ _ => true
  | _ => false
def isNilL : Expr → Bool
  | .List [] _ => true
  | _ => false
def isTupE : Expr → Option (List Expr)
  | .Tuple vs _ _ => some vs
  | _ => none
/-- the two targets are not stored crosswise -/
def swS2 (ts : List Expr) (e : Expr) (sc : Scope) : Bool := match isTupE e with
  | none => true
  | some vs => match swS ts vs sc with
    | some none => true
    | _ => false
def cS (T : Tx) (N : List Str) (sc : Scope) (mu : List Str) : Nat → Stmt → Option CSt
  | 0, _ => none
  | n + 1, st =>
    let E := cE T N 40 sc
    match st with
    | .Assign [.Name x _] e _ => if locN sc x = true then (slotN N x).bind fun i => (E e).bind fun c => if mu.contains x = true then (if fresh e = true ∧ ((isListC e).isNone = true ∨ T.free.contains "list" = true) then some (.own i c) else some (.asg (.v i) c)) else some (.asg (.v i) c) else none
    | .Assign [.Tuple [.Subscript (.Name x p1) i1 p2, .Subscript (.Name y p3) i2 p4] k p] e _ =>
      if x = y ∧ visN sc x = true ∧ okName x = true ∧ swS2 [.Subscript (.Name x p1) i1 p2, .Subscript (.Name y p3) i2 p4] e sc = true then (slotN N x).bind fun j => (E i1).bind fun c1 => (E i2).bind fun c2 => (E e).map fun c => .set2 j c1 c2 c else none
    | .Assign [.Tuple ts _ _] (.Tuple vs _ _) _ => match swS ts vs sc with
      | some (some [x, y]) => match ts, vs with
        | [.Name x' _, .Name y' _], [a, b] => if x = x' ∧ y = y' ∧ x ≠ y then (slotN N x).bind fun i => (slotN N y).bind fun j => (E a).bind fun ca => (E b).bind fun cb => if isNilL a = true ∧ isNilL b = true then some (.par0 i j) else if isNilL b = true ∧ (isListC a).isSome = true ∧ mu.contains x = true then (if glN sc "list" = true ∧ T.free.contains "list" = true then (isListC a).bind fun e => (E e).map fun c => .parL i j c else none) else some (.par i j ca cb)
          else none
        | _, _ => none
      | some none => (cT N sc (.Tuple ts 0 ⟨0, 0, 0, 0⟩)).bind fun t => (E (.Tuple vs 0 ⟨0, 0, 0, 0⟩)).map fun c => .asg t c
      | _ => none
    | .Assign [.Tuple ts k p] e _ => (cT N sc (.Tuple ts k p)).bind fun t => (E e).map fun c => .asg t c
    | .Assign [.Subscript (.Name x _) i _] e _ => if visN sc x = true ∧ okName x = true then (slotN N x).bind fun j => (E i).bind fun ci => (E e).map fun c => .set j ci c else none
    | .AugAssign (.Name x _) op e _ => if locN sc x = true ∧ (op = .Add ∨ op = .Sub) then (slotN N x).bind fun i => (E e).map fun c => .aug i op c else none
    | .Expr (.Call (.Attribute (.Name x _) m apos) [.Call (.Attribute (.Name y _) m2 apos2) [e] [] cpos2] [] cpos) _ =>
      if visN sc x = true ∧ okName x = true ∧ visN sc y = true ∧ okName y = true ∧ m = "append" ∧ m2 = "pop" ∧ apos.endLine = cpos.line ∧ apos2.endLine = cpos2.line then (slotN N x).bind fun i => (slotN N y).bind fun j => (E e).map fun c => .popApp i j c else none
    | .Expr (.Call (.Attribute (.Name x _) m apos) [e] [] cpos) _ =>
      if visN sc x = true ∧ okName x = true ∧ apos.endLine = cpos.line then (slotN N x).bind fun i => (E e).bind fun c => if m = "append" then some (.app i c) else if m = "extend" then some (.ext i c) else none else none
    | .Expr (.Call (.Attribute (.IfExp t (.Name x _) (.Name y _) _) m apos) [e] [] cpos) _ =>
      if visN sc x = true ∧ okName x = true ∧ visN sc y = true ∧ okName y = true ∧ m = "append" ∧ apos.endLine = cpos.line then (slotN N x).bind fun i => (slotN N y).bind fun j => (E t).bind fun ct => (E e).map fun c => .appIf ct i j c else none
    | .Return none _ => some .retN
    | .Return (some e) _ => (E e).map .ret
    | .If t a b _ => (E t).bind fun ct => (mapO (cS T N sc mu n) a).bind fun ca => (mapO (cS T N sc mu n) b).map fun cb => .ite ct ca cb
    | .For tg it body [] _ => (cI T (cE T N 40) sc tg it).bind fun ci => (cT N sc tg).bind fun t => (mapO (cS T N sc mu n) body).map fun cb => .for_ t ci cb
    | .While t body [] _ => (E t).bind fun ct => (mapO (cS T N sc mu n) body).map fun cb => .whl ct cb
    | .Pass _ => some .pass
    | .Continue _ => some .cont
    | .Break _ => some .brk
    | .Raise (some (.Call (.Name x _) (a :: args) [] _)) none _ => if T.errs.contains x = true ∧ glN sc x = true ∧ okName x = true then (mapO E (a :: args)).map fun l => .rais x l else none
    | _ => none
end Pur

/-! Pur9: subscripts, slices; the soundness of expressions. -/
namespace Pur
open
    PySem PySem.Spec PyProof.Rows L2
section
variable {X : Cx} {g : G} {E : XK}
theorem atI_reps {K : PySem.W.Frag} {F : Hp} {xs : List D} {vs : List V} {i : Int} {d : D} (r : Reps K g F xs vs) (h : L2.atI xs i = some d) : ∃ v, L2.atI vs i = some v ∧ Rep K g F d v := by
  unfold L2.atI at h ⊢
  rw [r.len]
  cases z : L2.ixN xs.length i with
  | none => rw [z] at h; cases h
  | some j =>
    rw [z] at h
    obtain ⟨v, hv, rv⟩ := r.get (show xs[j]? = some d from h)
    exact ⟨v, hv, rv⟩
theorem pd_ix {a b : Expr} {fa fb : List (Option D) → M D} {pos : Pos} (ha : PD X g E a fa) (hb : PD X g E b fb) (hs : PlainIx b) : PD X g E (.Subscript a b pos) (fun ρ => bnd (fa ρ) fun x => bnd (fb ρ) fun y => ixM x y) := by
  refine PE.weak (pe_ix ix_seq ha hb hs) fun σ H Q h => ?_
  obtain ⟨F, ρ, S, st, p⟩ := h
  refine ⟨F, ρ, S, st, (p.bind (RepD X.K g)).imp ?_⟩
  rintro x H1 ⟨dx, F1, S1, f1, r1, p⟩
  refine ⟨F1, ρ, S1, st.fwd f1, (p.bind (RepD X.K g)).imp ?_⟩
  rintro y H2 ⟨dy, F2, S2, f2, r2, p⟩
  have r1' : Rep X.K g F2 dx x := f2.to r1
  have r2' : Rep X.K g F2 dy y := r2
  by_cases hp : ∃ i, dx = .pen ∧ dy = .int i
  · obtain ⟨i, rfl, rfl⟩ := hp
    simp only [Rep] at r1' r2'
    subst r1' r2'
    simp only [ixM] at p
    by_cases h0 : i = 0
    · rw [if_pos h0] at p
      subst h0
      exact .inl ⟨g.pa, _, 0, .ref g.ca, rfl, rfl, SqL.of f2.pn.at_, rfl, p F2 H2 _ (Fwd.refl f2.fh f2.pn) (by
        show Rep X.K g F2 (.lst (S2.cells.map D.int)) (.ref g.ca)
        simp only [Rep]
        exact ⟨g.ca, _, rfl, f2.pn.cs, Reps.ints⟩)⟩
    rw [if_neg h0] at p
    by_cases h1 : i = 1
    · rw [if_pos h1] at p
      subst h1
      exact .inl ⟨g.pa, _, 1, .int S2.at_, rfl, rfl, SqL.of f2.pn.at_, rfl, p F2 H2 _ (Fwd.refl f2.fh f2.pn) rep_int⟩
    rw [if_neg h1] at p
    by_cases h2 : i = 2
    · rw [if_pos h2] at p
      subst h2
      exact .inl ⟨g.pa, _, 2, .int S2.rest, rfl, rfl, SqL.of f2.pn.at_, rfl, p F2 H2 _ (Fwd.refl f2.fh f2.pn) rep_int⟩
    rw [if_neg h2] at p
    exact p.elim
  have e0 : ixM dx dy S2 = ofO (getD' dx dy) S2 := by
    unfold ixM
    split
    · exact absurd ⟨_, rfl, rfl⟩ hp
    · rfl
  rw [e0] at p
  obtain ⟨d, e, q⟩ := p.ofO
  cases dx <;> cases dy <;> simp only [getD'] at e <;> (try (cases e; done)) <;> simp only [Rep] at r1' r2' <;> subst r2' <;> obtain ⟨a1, vs, rfl, hq, rs⟩ := r1'
  · obtain ⟨v, hv, rv⟩ := atI_reps rs e
    exact .inr (.inl ⟨a1, vs, _, v, rfl, rfl, TupAt.sq f2.fh hq, hv, q F2 H2 v (Fwd.refl f2.fh f2.pn) rv⟩)
  · obtain ⟨v, hv, rv⟩ := atI_reps rs e
    exact .inl ⟨a1, vs, _, v, rfl, rfl, SqL.of (f2.fh _ _ hq), hv, q F2 H2 v (Fwd.refl f2.fh f2.pn) rv⟩
theorem Reps.cut {K : PySem.W.Frag} {F : Hp} {xs : List D} {vs : List V} (r : Reps K g F xs vs) (lo hi : Option Int) : Reps K g F (cutL xs lo hi) (cutV vs lo hi) := by
  unfold cutL cutV
  rw [r.len]
  exact (r.drop _).take _
theorem cut_full {xs : List D} {lo hi : Option Int} (h : HT.sIx xs.length 0 lo = 0 ∧ HT.sIx xs.length xs.length hi = xs.length) : cutL xs lo hi = xs := by
  unfold cutL
  rw [h.1, h.2]
  simp
def rSlD (K : PySem.W.Frag) (g : G) : V → Option Int → Option Int → Hp → VK → Prop := fun x lo hi H Q => ∃ F S dx d, Same F H ∧ PenOk g F H S ∧ Rep K g F dx x ∧ sliceD dx lo hi = some d ∧ ∀ v F' H', Fwd g F H F' H' S → Rep K g F' d v → Q v H'
theorem sl_D : SlR X (rSlD X.K g) := by
  intro
      pins s σ H x v vl vu lo hi sl Q I rx hs pl pu h
  obtain ⟨F, S, dx, d, fh, pn, r, e, q⟩ := h
  have r' := r
  cases dx <;> simp only [sliceD] at e <;> (try (cases e; done)) <;> cases e <;> simp only [Rep] at r <;> obtain ⟨a1, vs, rfl, hq, rs⟩ := r
  · refine sl_tupA pins s σ H _ v vl vu lo hi sl Q I rx hs pl pu ⟨a1, vs, rfl, TupAt.sq fh hq, fun hw => ?_, fun hw p hp => new_tup fh pn (rs.cut lo hi) hp q⟩
    rw [rs.len] at hw
    exact q _ F H (Fwd.refl fh pn) (by rw [cut_full hw]; exact r')
  · exact sl_list pins s σ H _ v vl vu lo hi sl Q I rx hs pl pu ⟨a1, vs, rfl, SqL.of (fh _ _ hq), fun p hp => new_lst fh pn (rs.cut lo hi) hp q⟩
abbrev PDP (X : Cx) (g : G) (E : XK) (e : Option Expr) (f : List (Option D) → M (Option Int)) : Prop := PO X e (tDP X.K g E f)
theorem pdp_none : PDP X g E none (fun _ => ret none) := by
  refine PO.weak po_none fun σ H Q h => ?_
  obtain ⟨F, ρ, S, st, p⟩ := h
  exact p F H none st.refl rfl
theorem pdp_some {e : Expr} {f : List (Option D) → M D} (h : PD X g E e f) : PDP X g E (some e) (fun ρ => bnd (f ρ) fun d => ofO (partD d)) := by
  refine PO.weak (po_some h) fun σ H Q h => ?_
  obtain ⟨F, ρ, S, st, p⟩ := h
  refine ⟨F, ρ, S, st, (p.bind (RepD X.K g)).imp ?_⟩
  rintro x H1 ⟨dx, F1, S1, f1, r1, p⟩
  obtain ⟨d, e, q⟩ := p.ofO
  have r1' : Rep X.K g F1 dx x := r1
  cases dx <;> (try (cases e; done))
  cases e
  simp only [Rep] at r1'
  exact ⟨_, r1', q F1 H1 _ (Fwd.refl f1.fh f1.pn) rfl⟩
theorem pd_sl {a : Expr} {lo hi : Option Expr} {fa : List (Option D) → M D} {fl fh : List (Option D) → M (Option Int)} {p2 pos : Pos} (ha : PD X g E a fa) (hl : PDP X g E lo fl) (hh : PDP X g E hi fh) :
    PD X g E (.Subscript a (.Slice lo hi none p2) pos) (fun ρ => bnd (fa ρ) fun x => bnd (fl ρ) fun l => bnd (fh ρ) fun h => ofO (sliceD x l h)) := by
  refine PE.weak (pe_slice (sl_D (g := g)) ha hl hh) fun σ H Q h => ?_
  obtain ⟨F, ρ, S, st, p⟩ := h
  refine ⟨F, ρ, S, st, (p.bind (RepD X.K g)).imp ?_⟩
  rintro x H1 ⟨dx, F1, S1, f1, r1, p⟩
  refine ⟨F1, ρ, S1, st.fwd f1, (p.bind RepI).imp ?_⟩
  rintro l H2 ⟨l', F2, S2, f2, r2, p⟩
  cases r2
  refine ⟨F2, ρ, S2, (st.fwd f1).fwd f2, (p.bind RepI).imp ?_⟩
  rintro u H3 ⟨u', F3, S3, f3, r3, p⟩
  cases r3
  obtain ⟨d, e, q⟩ := p.ofO
  exact ⟨F3, S3, dx, d, f3.fh, f3.pn, f3.to (f2.to r1), e, fun v F' H' f r => q F' H' v f r⟩
end

/-! ### the whole -/
theorem bindO {α β : Type} {o : Option α} {f : α → Option β} {b : β} (h : o.bind f = some b) : ∃ a, o = some a ∧ f a = some b := by
  cases o with
  | none => cases h
  | some a => exact ⟨a, rfl, h⟩
theorem mapO' {α β : Type} {o : Option α} {f : α → β} {b : β} (h : o.map f = some b) : ∃ a, o = some a ∧ f a = b := by
  cases o with
  | none => cases h
  | some a => cases h; exact ⟨a, rfl, rfl⟩
theorem ite_some {c : Prop} [Decidable c] {α : Type} {a : Option α} {b : α} (h : (if c then a else none) = some b) : c ∧ a = some b := by
  by_cases k : c
  · rw [if_pos k] at h; exact ⟨k, h⟩
  · rw [if_neg k] at h; cases h
theorem cE_star {T : Tx} {N : List Str} {n : Nat} {sc : Scope} {e : Expr} {c : CE} (h : cE T N n sc e = some c) (es : List Expr) (env : Env) : starEach (e :: es) env = (false, eval e env) :: starEach es env := by
  cases e with
  | Starred a p => cases n <;> simp [cE] at h
  | _ => rfl
theorem mapO_star {T : Tx} {N : List Str} {n : Nat} {sc : Scope} : ∀ {es : List Expr} {l : List CE}, mapO (cE T N n sc) es = some l → ∀ (env : Env) (pos : Pos), (backTo pos (starEach es env)).any (·.1) = false
  | [], l, h, env, pos => rfl
  | e :: es, l, h, env, pos => by
    simp only [mapO] at h
    obtain ⟨c, h1, h2⟩ := bindO h
    obtain ⟨l', h3, _⟩ := mapO' h2
    rw [cE_star h1]
    have := mapO_star h3 env pos
    simpa [backTo] using this
theorem mapO_len {α β : Type} {f : α → Option β} : ∀ {es : List α} {l : List β}, mapO f es = some l → l.length = es.length
  | [], l, h => by simp only [mapO] at h; cases h; rfl
  | e :: es, l, h => by
    simp only [mapO] at h
    obtain ⟨c, h1, h2⟩ := bindO h
    obtain ⟨l', h3, rfl⟩ := mapO' h2
    rw [List.length_cons, List.length_cons, mapO_len h3]
theorem evs_len {cs : CS} : ∀ {l : List CE} {ρ : List (Option D)} {S S' : Pn} {ds : List D}, evs cs l ρ S = .ok ds S' → ds.length = l.length
  | [], ρ, S, S', ds, h => by simp only [evs] at h; cases h; rfl
  | c :: l, ρ, S, S', ds, h => by
    simp only [evs] at h
    obtain ⟨d, S1, h1, h2⟩ := bnd_ok h
    obtain ⟨ds', S2, h3, h4⟩ := bnd_ok h2
    cases h4
    rw [List.length_cons, List.length_cons, evs_len h3]
theorem evs_nil (cs : CS) : evs cs [] = fNil := by funext ρ; simp only [evs, fNil]
theorem evs_cons (cs : CS) (c : CE) (l : List CE) : evs cs (c :: l) = fCons (ev cs c) (evs cs l) := by funext ρ; simp only [evs, fCons]
theorem mapO_pds {T : Tx} {N : List Str} {n : Nat} {sc : Scope} {cs : CS} {X : Cx} {g : G} {E : XK} (ih : ∀ e c, cE T N n sc e = some c → PD X g E e (ev cs c)) : ∀ {es : List Expr} {l : List CE}, mapO (cE T N n sc) es = some l → PDs X g E es (evs cs l)
  | [], l, h => by
    simp only [mapO] at h
    cases h
    rw [evs_nil]; exact pds_nil
  | e :: es, l, h => by
    simp only [mapO] at h
    obtain ⟨c, h1, h2⟩ := bindO h
    obtain ⟨l', h3, rfl⟩ := mapO' h2
    rw [evs_cons]; exact pds_cons (ih e c h1) (mapO_pds ih h3) (cE_star h1 es X.env)
theorem gl_of {sc : Scope} {x : Str} {X : Cx} (hs : X.env.scope = sc) (h : glN sc x = true) : Gl X x := by
  subst hs
  unfold glN at h
  exact (show X.env.scope.names.lookup x = some .globalImplicit from of_decide_eq_true h)
theorem pd_glob {T : Tx} {g : G} {cs : CS} {k : Nat} {X : Cx} {E : XK} {x : Str} {d : D} {pos : Pos} (w : Wf T g cs k X.prog X.w X.K X.mg X.base) (hg : Gl X x) (o : OkName x) (h : globD T x = some d) : PD X g E (.Name x pos) (fun _ => ret d) := by
  have C := cv_simple (K := X.K)
  unfold globD at h
  split at h
  · rename_i fn e
    cases h
    obtain ⟨hm, _⟩ := w.fn x fn e
    exact pd_c (pe_glob hg hm (v := .ref (He.ga X.K x)) rfl o.d) (C.2.2.2.2.1 x)
  · split at h
    · rename_i i e
      cases h
      obtain ⟨t, hm⟩ := w.int x i e
      exact pd_c (pe_glob hg hm (v := .int i) ⟨_, rfl⟩ o.d) (C.2.2.1 i)
    · split at h
      · rename_i s e
        cases h
        obtain ⟨t, hm⟩ := w.str x s e
        exact pd_c (pe_glob hg hm (v := .str s) ⟨_, rfl⟩ o.d) (C.2.2.2.1 s)
      · by_cases c : T.clss.contains x = true
        · rw [if_pos c] at h
          cases h
          exact pd_c (pe_glob hg (w.cls x c) (v := .ref (He.ga X.K x)) rfl o.d) (C.2.2.2.2.2.1 x)
        · rw [if_neg c] at h
          obtain ⟨cf, h⟩ := ite_some h
          obtain ⟨n, h1, rfl⟩ := mapO' h
          have hm := w.free x cf
          unfold tyNames at h1
          rcases look_cons h1 with ⟨rfl, rfl⟩ | h1
          · exact pd_c (pe_bltn hg hm (v := .ty "int") (u := .type "int") (by decide +kernel) rfl o.n o.d) (C.2.2.2.2.2.2 _)
          rcases look_cons h1 with ⟨rfl, rfl⟩ | h1
          · exact pd_c (pe_bltn hg hm (v := .ty "bool") (u := .type "bool") (by decide +kernel) rfl o.n o.d) (C.2.2.2.2.2.2 _)
          rcases look_cons h1 with ⟨rfl, rfl⟩ | h1
          · exact pd_c (pe_bltn hg hm (v := .ty "str") (u := .type "str") (by decide +kernel) rfl o.n o.d) (C.2.2.2.2.2.2 _)
          rcases look_cons h1 with ⟨rfl, rfl⟩ | h1
          · exact pd_c (pe_bltn hg hm (v := .ty "list") (u := .type "list") (by decide +kernel) rfl o.n o.d) (C.2.2.2.2.2.2 _)
          rcases look_cons h1 with ⟨rfl, rfl⟩ | h1
          · exact pd_c (pe_bltn hg hm (v := .ty "tuple") (u := .type "tuple") (by decide +kernel) rfl o.n o.d) (C.2.2.2.2.2.2 _)
          rcases look_cons h1 with ⟨rfl, rfl⟩ | h1
          · exact pd_c (pe_bltn hg hm (v := .ty "dict") (u := .type "dict") (by decide +kernel) rfl o.n o.d) (C.2.2.2.2.2.2 _)
          cases h1
theorem XOk.blk {T : Tx} {g : G} {cs : CS} {N : List Str} {sc : Scope} {E : XK} {k : Nat} {X : Cx} (o : XOk T g cs N sc E k X) (s : Shared) (H : Hp) (scope : Scope) (C : Addr) (cl : List (Str × Addr)) (fp : List Addr) :
    XOk T g cs N (relS scope sc) (fun _ _ _ => False) k (X.blk s H scope (compEnvC scope cl C X.env) fp) where
  n := o.n
  sc := by rw [← o.sc]; rfl
  nd := o.nd
  calm := o.calm
  room := o.room
  room1 := o.room1
  tk := takes0
  wf := o.wf
  lam := fun h => by
    have l := o.lam h
    exact ⟨l.ex, l.room, l.k1⟩
  en := o.en
theorem tgOk_blk {X : Cx} {sc : Scope} (hs : X.env.scope = sc) (s : Shared) (H : Hp) (scope : Scope) (C : Addr) (cl : List (Str × Addr)) (fp : List Addr) : TgOk (X.blk s H scope (compEnvC scope cl C X.env) fp) scope := by
  intro x hx
  have key : ∀ k : NameKind, k ≠ .free → scope.names.lookup x = some k → (compEnvC scope cl C X.env).scope.names.lookup x = some k := fun k hk e => lookup_relS_keep (sc := X.env.scope) hk e
  unfold locN at hx
  split at hx
  · rename_i e
    exact ⟨.inl (key _ (by decide) e), .inr (key _ (by decide) e)⟩
  · rename_i e
    exact ⟨.inr (key _ (by decide) e), .inl (by show (scope.names.lookup x == some .cell) = true; rw [e]; rfl)⟩
  · cases hx
theorem subL_of {a b : List Nat} (h : subL a b = true) : ∀ i ∈ a, i ∈ b := fun i hi => by
  unfold subL at h
  have := List.all_eq_true.mp h i hi
  simpa using this
theorem cI_fold {T : Tx} {N : List Str} {n : Nat} {sc : Scope} {tg e : Expr} {c : CE} (h : cI T (cE T N n) sc tg e = some c) (env : Env) (x : Value) : foldedSetIterable e env x = pure x := by
  cases e with
  | «Set» l k p => cases n <;> simp [cI, cE] at h
  | _ => rfl
end Pur

/-! PurK: calls by keywords alone. -/
namespace Pur
open
    PySem PySem.Spec PyProof.Rows L2
theorem vals_at : ∀ {zs : List V} {ws : List Value}, Vals zs ws → ∀ i : Nat, (zs[i]? = none ∧ ws[i]? = none) ∨ ∃ z w, zs[i]? = some z ∧ ws[i]? = some w ∧ RelV z w
  | [], _, .nil, i => .inl ⟨by simp, by simp⟩
  | _ :: _, _, .cons r t, 0 => .inr ⟨_, _, rfl, rfl, r⟩
  | _ :: _, _, .cons r t, i + 1 => by simpa using vals_at t i
theorem vals_pick {zs : List V} {ws : List Value} (h : Vals zs ws) : ∀ ix : List Nat, Vals (ix.filterMap fun i => zs[i]?) (ix.filterMap fun i => ws[i]?)
  | [] => .nil
  | i :: ix => by
    rcases vals_at h i with ⟨e1, e2⟩ | ⟨z, w, e1, e2, r⟩
    · rw [List.filterMap_cons, List.filterMap_cons, e1, e2]; exact vals_pick h ix
    · rw [List.filterMap_cons, List.filterMap_cons, e1, e2]; exact .cons r (vals_pick h ix)
theorem reps_pick {K : PySem.W.Frag} {g : G} {F : Hp} {ds : List D} {vs : List V} (h : Reps K g F ds vs) : ∀ {ix : List Nat} {es : List D}, mapO (fun i => ds[i]?) ix = some es → Reps K g F es (ix.filterMap fun i => vs[i]?)
  | [], es, e => by simp only [mapO] at e; cases e; exact Reps.nil
  | i :: ix, es, e => by
    simp only [mapO] at e
    obtain ⟨d, h1, h2⟩ := bindO e
    obtain ⟨l, h3, rfl⟩ := mapO' h2
    obtain ⟨v, hv, rv⟩ := h.get h1
    rw [List.filterMap_cons, hv]
    exact Reps.cons rv (reps_pick h h3)
section
variable {X : Cx} {g : G} {E : XK}
theorem PK.weak {kws : List Keyword} {t t' : TA} (h : PK X kws t) (w : ∀ σ H Q, t' σ H Q → t σ H Q) : PK X kws t' := ⟨fun pos pins s σ H Q I q => h.run pos pins s σ H Q I (w _ _ _ q)⟩
theorem pdk_nil : PK X [] (tDs X.K g E fNil) := PK.weak pk_nil fun σ H Q h => by
  obtain ⟨F, ρ, S, st, p⟩ := h
  exact p F H [] (Fwd.refl st.fh st.pn) Reps.nil
theorem pdk_cons {nm : Option Str} {e : Expr} {kpos : Pos} {kws : List Keyword} {f : List (Option D) → M D} {fs : List (Option D) → M (List D)} (he : PD X g E e f) (hr : PK X kws (tDs X.K g E fs)) : PK X (⟨nm, e, kpos⟩ :: kws) (tDs X.K g E (fCons f fs)) := by
  refine PK.weak (pk_cons he hr) fun σ H Q h => ?_
  obtain ⟨F, ρ, S, st, p⟩ := h
  refine ⟨F, ρ, S, st, (p.bind (RepD X.K g)).imp ?_⟩
  rintro x H1 ⟨dx, F1, S1, f1, r1, p⟩
  refine ⟨F1, ρ, S1, st.fwd f1, (p.bind (RepsD X.K g)).imp ?_⟩
  rintro xs H2 ⟨dxs, F2, S2, f2, r2, p⟩
  exact p F2 H2 _ (Fwd.refl f2.fh f2.pn) (Reps.cons (f2.to r1) r2)
theorem mapO_pdk {T : Tx} {N : List Str} {n : Nat} {sc : Scope} {cs : CS} (ih : ∀ e c, cE T N n sc e = some c → PD X g E e (ev cs c)) : ∀ {kws : List Keyword} {l : List CE}, mapO (fun k : Keyword => cE T N n sc k.value) kws = some l → PK X kws (tDs X.K g E (evs cs l))
  | [], l, h => by
    simp only [mapO] at h
    cases h
    rw [evs_nil]; exact pdk_nil
  | ⟨nm, e, kp⟩ :: kws, l, h => by
    simp only [mapO] at h
    obtain ⟨c, h1, h2⟩ := bindO h
    obtain ⟨l', h3, rfl⟩ := mapO' h2
    rw [evs_cons]; exact pdk_cons (ih e c h1) (mapO_pdk ih h3)
theorem kw_names : ∀ {kws : List Keyword} {ks : List Str}, mapO (fun k : Keyword => k.arg) kws = some ks → ∀ (env : Env) (pos : Pos), (backToKw pos (keywordEach kws env)).filterMap (·.1) = ks
  | [], ks, h, env, pos => by simp only [mapO] at h; cases h; rfl
  | ⟨nm, e, kp⟩ :: kws, ks, h, env, pos => by
    simp only [mapO] at h
    obtain ⟨c, h1, h2⟩ := bindO h
    obtain ⟨l', h3, rfl⟩ := mapO' h2
    cases h1
    have := kw_names h3 env pos
    simp only [keywordEach, backToKw, List.map_cons, List.filterMap_cons]
    simp only [backToKw] at this
    rw [this]
theorem kw_all : ∀ {kws : List Keyword} {ks : List Str}, mapO (fun k : Keyword => k.arg) kws = some ks → ∀ (env : Env) (pos : Pos), (backToKw pos (keywordEach kws env)).all (·.1.isSome) = true
  | [], ks, h, env, pos => rfl
  | ⟨nm, e, kp⟩ :: kws, ks, h, env, pos => by
    simp only [mapO] at h
    obtain ⟨c, h1, h2⟩ := bindO h
    obtain ⟨l', h3, rfl⟩ := mapO' h2
    cases h1
    have := kw_all h3 env pos
    simp only [keywordEach, backToKw, List.map_cons, List.all_cons, Option.isSome_some, Bool.true_and]
    simpa [backToKw] using this
theorem kw_plain {kws : List Keyword} {ks : List Str} (h : mapO (fun k : Keyword => k.arg) kws = some ks) (env : Env) (pos : Pos) : ((backTo pos (starEach [] env)).any (·.1) || (backToKw pos (keywordEach kws env)).any (·.1.isNone)) = false := by
  have := List.all_eq_true.mp (kw_all h env pos)
  show (false || _) = false
  rw
      [Bool.false_or, List.any_eq_false]
  intro x hx
  have := this x hx
  cases z : x.1 with
  | none => rw [z] at this; cases this
  | some y => simp
variable {CX : CXT} {k : Nat} {f : Addr} {fd : FuncData} {ps ks : List Str} {ix : List Nat} {sp : Sp} {x : Str} {p pos : Pos} {kws : List Keyword} {tk : TA}
/-- f(k = v, ..) -/
theorem pe_callK0 (F : FnOk X.prog X.w X.K X.mg X.base CX k f fd ps sp) (hr : Room k X.A) (hg : Gl X x) (hm : X.mg x = some (.ref f)) (hk : PySem.W.keepIn X.K (.ref f) = true) (hb : KwB X.K fd ps ks ix) (hx : Passes CX X E) (hkw : PK X kws tk)
    (hall : (backToKw pos (keywordEach kws X.env)).all (·.1.isSome) = true) (hks : (backToKw pos (keywordEach kws X.env)).filterMap (·.1) = ks)
    (hpl : ((backTo pos (starEach [] X.env)).any (·.1) || (backToKw pos (keywordEach kws X.env)).any (·.1.isNone)) = false) (hdb : (x == ("__debug__" : Str)) = false) :
    PE X (.Call (.Name x p) [] kws pos) (fun σ H Q => tk σ H fun zs H2 => zs.length = ks.length ∧ sp (ix.filterMap fun i => zs[i]?) H2 Q E) := by
  refine
      ⟨fun pins s σ H Q I h => ?_⟩
  refine
      wpAny_Call_Name_kw (ld_glob I hg hm ?_ hdb)
  refine PySem.W.callWith_KW0 (h₀ := X.base) I.ok.mod.kin hk hall (thn (hkw.run pos pins s σ H _ I h) fun ws s2 ⟨zs, H2, I2, rz, hl, q2⟩ => ⟨I2.kIn, ?_⟩) hpl
  rw [hks]
  have r2 := vals_pick rz ix
  refine wpAny_call (codeAny_mono (F.run X.A X.stack s2 H2 ⟨[], ks.zip ws⟩ (ix.filterMap fun i => ws[i]?) (ix.filterMap fun i => zs[i]?) Q E hr I2.env0 (hb s2 ws (by rw [← rz.length]; exact hl)) r2 q2) fun r s' hq => ?_)
  cases r with
  | error e => exact hx pins σ H2 s2 e s' I2 hq
  | ok fl =>
    cases fl with
    | ret u => exact I2.after hq
    | next => exact False.elim hq
    | brk => exact False.elim hq
    | cont => exact False.elim hq
theorem pd_callK {T : Tx} {cs : CS} {fn : Fn} {fs : List (Option D) → M (List D)} (w : Wf T g cs k X.prog X.w X.K X.mg X.base) (hf : T.fn x = some fn) (hr : Room k X.A) (tk : Takes X (fun cls d _ H => E cls d H)) (hg : Gl X x) (o : OkName x)
    (ha : PK X kws (tDs X.K g E fs)) (hl : ∀ ρ S ds S', fs ρ S = .ok ds S' → ds.length = ks.length) (hm : (x, ks, ix) ∈ T.kws) (hix : ix.length = fn.ps.length)
    (hall : (backToKw pos (keywordEach kws X.env)).all (·.1.isSome) = true) (hks : (backToKw pos (keywordEach kws X.env)).filterMap (·.1) = ks)
    (hpl : ((backTo pos (starEach [] X.env)).any (·.1) || (backToKw pos (keywordEach kws X.env)).any (·.1.isNone)) = false) :
    PD X g E (.Call (.Name x p) [] kws pos) (fun ρ => bnd (fs ρ) fun ds => bnd (ofO (mapO (fun i => ds[i]?) ix)) fun es => cs x es) := by
  obtain ⟨hmg, hk, fd, hb, kb, ok⟩ := w.fn x fn hf
  refine PE.weak (pe_callK0 (CX := L2.CX X.prog X.w) (E := E) ok hr hg hmg hk (kb ks ix hm) (passes_call tk fun _ _ _ _ h => h) ha hall hks hpl o.d) fun σ H Q h => ?_
  obtain ⟨F, ρ, S, st, p⟩ := h
  refine ⟨F, ρ, S, st, ?_⟩
  have p' := p.bind (RepsD X.K g)
  cases z : fs ρ S with
  | stuck => rw [z] at p'; exact p'
  | exc c fs S' => rw [z] at p'; exact p'
  | ok ds S' =>
    rw [z] at p'
    intro F1 H1 vs f1 r1
    obtain ⟨ds', F2, S2, f2, r2, p2⟩ := p' F1 H1 vs f1 r1
    have h1 := Reps.len (show Reps X.K g F1 ds vs from r1)
    have h3 := hl ρ S ds S' z
    obtain ⟨es, he, p3⟩ := p2.some
    refine ⟨by rw [h1, h3], F2, es, S2, f2.fh, f2.pn, reps_pick r2 he, ?_, p3⟩
    rw [mapO_len he, hix]
theorem fnsOf_mem {T : Tx} {n : Nat} {x : Str} (h : (T.fnsOf n).contains x = true) : ∃ fn, T.fn x = some fn ∧ fn.ps.length = n := by
  have h := (List.mem_filter.mp (List.contains_iff_mem.mp h)).2
  cases z : T.fn x with
  | none => rw [z] at h; cases h
  | some fn => rw [z] at h; exact ⟨fn, rfl, by simpa using h⟩
theorem pd_callV {T : Tx} {cs : CS} {fs : List (Option D) → M (List D)} {e : Expr} {es : List Expr} {i n : Nat} (w : Wf T g cs k X.prog X.w X.K X.mg X.base) (hr : Room k X.A) (tk : Takes X (fun cls d _ H => E cls d H)) (hN : X.N[i]? = some x) (hv : Vis X.env.scope x) (o : OkName x)
    (ha : PDs X g E (e :: es) fs) (hl : ∀ ρ S ds S', fs ρ S = .ok ds S' → ds.length = n) (he : starEach (e :: es) X.env = (false, eval e X.env) :: starEach es X.env) (hpl : (backTo pos (starEach es X.env)).any (·.1) = false) :
    PD X g E (.Call (.Name x p) (e :: es) [] pos) (fun ρ => bnd (ofO (ρ[i]?).join) fun d => bnd (ofO (fnD (T.fnsOf n) d)) fun y => bnd (fs ρ) fun ds => cs y ds) := by
  refine
      ⟨fun pins s σ H Q I h => ?_⟩
  obtain ⟨F, ρ, S, st, p⟩ := h
  obtain ⟨d, e1, p⟩ := p.some
  obtain ⟨y, e2, p3⟩ := p.some
  have e' : ρ[i]? = some (some d) := by
    cases z : ρ[i]? with
    | none => rw [z] at e1; cases e1
    | some q => rw [z] at e1; exact congrArg some e1
  obtain ⟨v, hσ, rv⟩ := st.env i d e'
  cases d with
  | fn x0 =>
    simp only [fnD] at e2
    obtain ⟨hc, e3⟩ := ite_some e2
    cases e3
    obtain ⟨fn, hf, hn⟩ := fnsOf_mem hc
    obtain ⟨hmg, hk, fd, hb, _, ok⟩ := w.fn _ fn hf
    simp only [Rep] at rv
    subst rv
    refine (pe_callL (CX := L2.CX X.prog X.w) (i := i) (f := He.ga X.K y) (ds := []) (dvs := []) (E := E) ok hr hN hv hk hb .nil (passes_call tk fun _ _ _ _ h => h) ha o.d o.c he hpl).run pins s σ H Q I ⟨hσ, ?_⟩
    refine ⟨F, ρ, S, st, ?_⟩
    have p : Post X.K g E F H (bnd (fs ρ) (fun ds => cs y ds) S) (RepD X.K g) Q := p3
    have p' := p.bind (RepsD X.K g)
    cases z : fs ρ S with
    | stuck => rw [z] at p'; exact p'
    | exc c fs S' => rw [z] at p'; exact p'
    | ok ds S' =>
      rw [z] at p'
      intro F1 H1 vs f1 r1
      obtain ⟨ds', F2, S2, f2, r2, p2⟩ := p' F1 H1 vs f1 r1
      rw [List.append_nil]
      refine ⟨F2, ds', S2, f2.fh, f2.pn, r2, ?_, p2⟩
      have h1 := Reps.len (show Reps X.K g F1 ds vs from r1)
      have h2 := Reps.len (show Reps X.K g F2 ds' vs from r2)
      have h3 := hl ρ S ds S' z
      omega
  | _ => simp only [fnD] at e2; cases e2
end
end Pur

/-! Pur10: expressions are sound. -/
namespace Pur
open
    PySem PySem.Spec PyProof.Rows L2
/-- what is shown of a compiled expression -/
structure Snd (X : Cx) (g : G) (E : XK) (cs : CS) (e : Expr) (c : CE) : Prop where
  d : PD X g E e (ev cs c)
  t : PDT X g E e (ev cs c)
  w : ∀ op vs p, e = .BoolOp op vs p → PWT X g E e (ev cs c)
theorem Snd.plain {X : Cx} {g : G} {E : XK} {cs : CS} {e : Expr} {c : CE} (h : PD X g E e (ev cs c)) (he : ∀ whole, isTrue e X.env whole = (do let v ← whole; standAt e.pos; holding [v] (truthy v))) (nb : ∀ op vs p, e ≠ .BoolOp op vs p) : Snd X g E cs e c :=
  ⟨h, pdt_plain h he, fun op vs p z => absurd z (nb op vs p)⟩
theorem Room.u64 {A : Around} (r : Room 1 A) : A.units + 64 < cLine := Room.units r
theorem pts_of {X : Cx} {g : G} {cs : CS} {E : XK} {T : Tx} {N : List Str} {n : Nat} {sc : Scope} (ih : ∀ e c, cE T N n sc e = some c → PDT X g E e (ev cs c)) : ∀ {ifs : List Expr} {l : List CE}, ifs.length ≤ 1 → mapO (cE T N n sc) ifs = some l → PTs X ifs (tDB X.K g E (evTs cs l))
  | [], l, _, h => by
    simp only [mapO] at h
    cases h
    refine ⟨fun pins s σ H Q I q => pts_nil.run pins s σ H Q I ?_⟩
    obtain ⟨F, ρ, S, st, p⟩ := q
    have e : evTs cs [] ρ S = .ok true S := by simp only [evTs]; rfl
    rw [e] at p
    exact p F H true st.refl rfl
  | [c], l, _, h => by
    simp only [mapO] at h
    obtain ⟨cc, h1, h2⟩ := bindO h
    cases h2
    refine ⟨fun pins s σ H Q I q => (pts_one (ih c cc h1)).run pins s σ H Q I ?_⟩
    have e : evTs cs [cc] = fT (ev cs cc) := by funext ρ; simp only [evTs, fT]
    rw [e] at q
    exact q
  | _ :: _ :: _, l, hl, h => by simp at hl
/-- the iterable -/
theorem cI_snd {X : Cx} {g : G} {cs : CS} {E : XK} {T : Tx} {N : List Str} {n k : Nat} {sc : Scope} {tg e : Expr} {c : CE} (o : XOk T g cs N sc E k X) (ih : ∀ e c, cE T N n sc e = some c → PD X g E e (ev cs c)) (h : cI T (cE T N n) sc tg e = some c) : PDI X g E tg e (evI cs c) := by
  have gen : (cE T N n sc e).map .iVal = some c → PDI X g E tg e (evI cs c) := fun h => by
    obtain ⟨c0, h0, rfl⟩ := mapO' h
    have e0 : evI cs (.iVal c0) = fun ρ => bnd (ev cs c0 ρ) fun x => ofO (seqD x) := by funext ρ; simp only [evI]
    rw [e0]
    exact pdi_seq (ih e c0 h0)
  have mgf : ∀ f, T.free.contains f = true → X.mg f = none := fun f h => o.wf.free f h
  unfold cI at h
  split at h
  · rename_i f p a pos
    split at h
    · rename_i cnd
      obtain ⟨rfl, hf, hg⟩ := cnd
      obtain ⟨ca, h1, rfl⟩ := mapO' h
      have e0 : evI cs (.iRng1 ca) = fun ρ => bnd (ev cs ca ρ) fun x => ofO (rng1D x) := by funext ρ; simp only [evI]
      rw [e0]
      exact pdi_rng1 (gl_of o.sc hg) (mgf _ hf) (ih _ _ h1) (cE_star h1 [] X.env)
    · split at h
      · rename_i cnd
        obtain ⟨rfl, hf, hg, ht⟩ := cnd
        obtain ⟨ca, h1, rfl⟩ := mapO' h
        have e0 : evI cs (.iEnum ca) = fun ρ => bnd (ev cs ca ρ) fun x => ofO ((seqD x).map (enumD 0)) := by funext ρ; simp only [evI]
        rw [e0]
        cases tg <;> first | (cases ht; done) | exact pdi_enum (gl_of o.sc hg) (mgf _ hf) (ih _ _ h1) (cE_star h1 [] X.env)
      · exact gen h
  · rename_i f p a b pos
    split at h
    · rename_i cnd
      obtain ⟨rfl, hf, hg⟩ := cnd
      obtain ⟨ca, h1, h⟩ := bindO h
      obtain ⟨cb, h2, rfl⟩ := mapO' h
      have e0 : evI cs (.iRng2 ca cb) = fun ρ => bnd (ev cs ca ρ) fun x => bnd (ev cs cb ρ) fun y => ofO (rng2D x y) := by funext ρ; simp only [evI]
      rw [e0]
      exact pdi_rng2 (gl_of o.sc hg) (mgf _ hf) (ih _ _ h1) (ih _ _ h2) (by rw [cE_star h1, cE_star h2]; rfl) (cE_star h2 [] X.env)
    · split at h
      · rename_i cnd
        obtain ⟨rfl, hf, hg, ht⟩ := cnd
        obtain ⟨ca, h1, h⟩ := bindO h
        obtain ⟨cb, h2, rfl⟩ := mapO' h
        have e0 : evI cs (.iZip ca cb) = fun ρ => bnd (ev cs ca ρ) fun x => bnd (ev cs cb ρ) fun y => ofO ((seqD x).bind fun xs => (seqD y).map fun ys => zipD xs ys) := by funext ρ; simp only [evI]
        rw [e0]
        cases tg <;> first | (cases ht; done) | exact pdi_zip (gl_of o.sc hg) (mgf _ hf) (ih _ _ h1) (ih _ _ h2) (cE_star h1 [b] X.env) (cE_star h2 [] X.env)
      · exact gen h
  · exact gen h
theorem bi_eq (cs : CS) (op : Operator) (a b : CE) : ev cs (.bin op a b) = fun ρ => bnd (ev cs a ρ) fun x => bnd (ev cs b ρ) fun y => ofO (binD op x y) := by funext ρ; simp only [ev]
theorem ev_cmp (cs : CS) (op : CmpOp) (a b : CE) : ev cs (.cmp op a b) = fun ρ => bnd (ev cs a ρ) fun x => bnd (ev cs b ρ) fun y => bnd (ofO (cmpD op x y)) fun c => ret (.bl c) := by funext ρ; simp only [ev]
theorem ev_chain (cs : CS) (op op' : CmpOp) (a b c : CE) : ev cs (.chain op op' a b c) = fun ρ => bnd (ev cs a ρ) fun x => bnd (ev cs b ρ) fun y => bnd (ofO (cmpD op x y)) fun k =>
    if k = true then bnd (ev cs c ρ) fun z => bnd (ofO (cmpD op' y z)) fun k' => ret (.bl k') else ret (.bl false) := by funext ρ; simp only [ev]
theorem plainIx_of {i : Expr} (h : ∀ lo hi st p, i ≠ .Slice lo hi st p) : PlainIx i := by
  intro o v
  cases i <;> first | rfl | exact absurd rfl (h _ _ _ _)
theorem cE_part {T : Tx} {N : List Str} {n : Nat} {sc : Scope} {cs : CS} {X : Cx} {g : G} {E : XK} (ih : ∀ e c, cE T N n sc e = some c → PD X g E e (ev cs c)) {lo : Option Expr} {l : Option CE} (h : (match lo with
    | none => some none
    | some e => (cE T N n sc e).map some) = some l) : PDP X g E lo (evP cs l) := by
  cases lo with
  | none =>
    cases h
    have e0 : evP cs none = fun _ => ret none := by funext ρ; simp only [evP]
    rw [e0]
    exact pdp_none
  | some e =>
    obtain ⟨c, h1, rfl⟩ := mapO' (show (cE T N n sc e).map some = some l from h)
    have e0 : evP cs (some c) = fun ρ => bnd (ev cs c ρ) fun d => ofO (partD d) := by funext ρ; simp only [evP]
    rw [e0]
    exact pdp_some (ih e c h1)
theorem ev_lc (cs : CS) (own : List Nat) (t : CT) (it : CE) (fs : List CE) (el : CE) : ev cs (.lc own t it fs el) = fLc (evI cs it) own t (evTs cs fs) (ev cs el) := by funext ρ; simp only [ev]; rfl
theorem lc_parts {T : Tx} {g : G} {cs : CS} {N : List Str} {k n : Nat} {sc scope : Scope} {X : Cx} {E : XK} {elt tg iter : Expr} {ifs : List Expr} {it el : CE} {t : CT} {fs : List CE} (o : XOk T g cs N sc E k X)
    (ih : ∀ (sc : Scope) (e : Expr) (c : CE), cE T N n sc e = some c → ∀ (X : Cx) (E : XK), XOk T g cs N sc E k X → Snd X g E cs e c) (hb : blkC N sc scope (ownOf N scope) = true) (hf : ifs.length ≤ 1) (h1 : cI T (cE T N n) sc tg iter = some it)
    (h2 : cT N scope tg = some t) (h3 : mapO (cE T N n (relS scope sc)) ifs = some fs) (h4 : cE T N n (relS scope sc) elt = some el) (hs : subL (tslots t) ((ownOf N scope).map (·.2)) = true) :
    LcP X g E elt tg iter ifs scope (ownOf N scope) t (evI cs it) (evTs cs fs) (ev cs el) where
  hi := cI_snd o (fun e c h => (ih sc e c h X E o).d) h1
  ok := by rw [o.n, o.sc]; exact blkOk_by hb
  hg := fun s H C cl fp => (pg_of (X := X.blk s H scope (compEnvC scope cl C X.env) fp) (g := g) o.nd o.calm (tgOk_blk rfl s H scope C cl fp) tg t (by show cT X.N scope tg = some t; rw [o.n]; exact h2)).1
  ht := fun s H C cl fp => pts_of (X := X.blk s H scope (compEnvC scope cl C X.env) fp) (fun e c h => (ih _ e c h _ _ (o.blk s H scope C cl fp)).t) hf h3
  he := fun s H C cl fp => (ih _ _ _ h4 _ _ (o.blk s H scope C cl fp)).d
  hs := fun x => cI_fold h1 _ x
  hsub := subL_of hs
theorem isDcE_of {a : Expr} {x : Str} {iter : Expr} {scope : Scope} (h : isDcE a = some (x, iter, scope)) : ∃ p2 k p3 p1 pos2, a = .DictComp (.Name x p2) (.Constant (.bool true) k p3) [⟨.Name x p1, iter, [], 0⟩] scope pos2 := by
  unfold isDcE at h
  split at h
  · obtain ⟨e, h⟩ := ofIf h
    cases h
    subst e
    exact ⟨_, _, _, _, _, rfl⟩
  · cases h
theorem isSetE_of {a b : Expr} (h : isSetE a = some b) : ∃ p2 q, a = .Call (.Name "set" p2) [b] [] q := by
  unfold isSetE at h
  split at h
  · rename_i f p b' q
    by_cases e : f = "set"
    · rw [if_pos e] at h
      cases h
      subst e
      exact ⟨_, _, rfl⟩
    · rw [if_neg e] at h; cases h
  · cases h
theorem isLamE_of {a body : Expr} {scope : Scope} (h : isLamE a = some (body, scope)) : ∃ lpos, a = .Lambda { posonlyargs := [], args := [], vararg := none, kwonlyargs := [], kw_defaults := [], kwarg := none, defaults := [] } body scope lpos := by
  unfold isLamE at h
  split at h
  · cases h
    exact ⟨_, rfl⟩
  · cases h
theorem isLamD_of {a body : Expr} {scope : Scope} {y : Str} (h : isLamD a = some (y, body, scope)) : ∃ (ar : Arg) (j : Int) (ck : Nat) (cpos lpos : Pos), y = ar.arg ∧ a = .Lambda { posonlyargs := [], args := [ar], vararg := none, kwonlyargs := [], kw_defaults := [], kwarg := none, defaults := [.Constant (.int j) ck cpos] } body scope lpos := by
  unfold isLamD at h
  split at h
  · cases h
    exact ⟨_, _, _, _, _, rfl, rfl⟩
  · cases h
theorem evSt_nil (cs : CS) : evSt cs [] = fun ρ => ret [] := by funext ρ; simp only [evSt]
theorem pds_st {T : Tx} {g : G} {cs : CS} {N : List Str} {n : Nat} {sc : Scope} {X : Cx} {E : XK} (I : ∀ e c, cE T N n sc e = some c → PD X g E e (ev cs c)) : ∀ {es : List Expr} {l : List (Bool × CE)}, mapO (fun e => match e with
        | .Starred e' _ => (cE T N n sc e').map fun c => (true, c)
        | e' => (cE T N n sc e').map fun c => (false, c)) es = some l → PDs X g E es (evSt cs l)
  | [], l, h => by
    simp only [mapO] at h
    cases h
    rw [evSt_nil]; exact pds_nil
  | e :: es, l, h => by
    simp only [mapO] at h
    obtain ⟨⟨b, c⟩, h1, h2⟩ := bindO h
    obtain ⟨l', h3, rfl⟩ := mapO' h2
    have r := pds_st I h3
    have e1 : evSt cs ((true, c) :: l') = fun ρ => bnd (ev cs c ρ) fun d => bnd (ofO (seqD d)) fun xs => bnd (evSt cs l' ρ) fun ds => ret (xs ++ ds) := by funext ρ; simp only [evSt, if_true]
    have e2 : evSt cs ((false, c) :: l') = fun ρ => bnd (ev cs c ρ) fun d => bnd (evSt cs l' ρ) fun ds => ret (d :: ds) := by funext ρ; simp only [evSt, Bool.false_eq_true, if_false]
    have plain : (cE T N n sc e).map (fun c => (false, c)) = some (b, c) → PDs X g E (e :: es) (evSt cs ((b, c) :: l')) := fun h1 => by
      obtain ⟨c', hc, ec⟩ := mapO' h1
      cases ec
      rw [e2]
      exact pds_cons (I _ _ hc) r (cE_star hc es X.env)
    cases e with
    | Starred e' p =>
      obtain ⟨c', hc, ec⟩ := mapO' h1
      cases ec
      rw [e1]
      exact pds_star (I _ _ hc) r
    | _ => exact plain h1
theorem sound_E {g : G} {cs : CS} {N : List Str} {k : Nat} : ∀ (n : Nat) {T : Tx} (sc : Scope) (e : Expr) (c : CE), cE T N n sc e = some c → ∀ (X : Cx) (E : XK), XOk T g cs N sc E k X → Snd X g E cs e c := by
  intro n
  induction n with
  | zero => intro T sc e c h; simp [cE] at h
  | succ n ih =>
    intro T sc e c h X E o
    have hu := Room.u64 o.room1
    have I : ∀ e c, cE T N n sc e = some c → PD X g E e (ev cs c) := fun e c h => (ih sc e c h X E o).d
    have IT : ∀ e c, cE T N n sc e = some c → PDT X g E e (ev cs c) := fun e c h => (ih sc e c h X E o).t
    unfold cE at h
    split at h
    · -- a constant
      obtain ⟨d, h1, rfl⟩ := mapO' h
      have e0 : ev cs (.const d) = fun _ => ret d := by funext ρ; simp only [ev]
      refine Snd.plain ?_ (fun _ => rfl) (fun _ _ _ z => nomatch z)
      rw [e0]; exact pd_const h1
    · -- a name
      rename_i x pos
      obtain ⟨ok, h⟩ := ite_some h
      have ok := okName_of ok
      split at h
      · rename_i hv
        obtain ⟨i, h1, rfl⟩ := mapO' h
        have e0 : ev cs (.var i) = fun ρ => ofO (ρ[i]?).join := by funext ρ; simp only [ev]
        refine Snd.plain ?_ (fun _ => rfl) (fun _ _ _ z => nomatch z)
        rw [e0]
        exact pd_var (by rw [o.n]; exact slot_at h1) (by rw [o.sc]; exact vis_of hv) ok
      · obtain ⟨hg, h⟩ := ite_some h
        obtain ⟨d, h1, rfl⟩ := mapO' h
        have e0 : ev cs (.const d) = fun _ => ret d := by funext ρ; simp only [ev]
        refine Snd.plain ?_ (fun _ => rfl) (fun _ _ _ z => nomatch z)
        rw [e0]; exact pd_glob o.wf (gl_of o.sc hg) ok h1
    · -- a op b
      obtain ⟨a', h1, h⟩ := bindO h
      obtain ⟨b', h2, rfl⟩ := mapO' h
      refine Snd.plain ?_ (fun _ => rfl) (fun _ _ _ z => nomatch z)
      rw [bi_eq]
      exact pd_bin (I _ _ h1) (I _ _ h2)
    · -- not
      obtain ⟨a', h1, rfl⟩ := mapO' h
      have e0 : ev cs (.not a') = fun ρ => bnd (ev cs a' ρ) fun x => bnd (ofO (truD x)) fun b => ret (.bl (!b)) := by funext ρ; simp only [ev]
      refine ⟨?_, ?_, fun _ _ _ z => nomatch z⟩
      · rw [e0]; exact pd_not (I _ _ h1)
      · rw [e0]; exact pdt_not (IT _ _ h1)
    · -- minus
      obtain ⟨a', h1, rfl⟩ := mapO' h
      have e0 : ev cs (.neg a') = fun ρ => bnd (ev cs a' ρ) fun x => ofO (negD x) := by funext ρ; simp only [ev]
      refine Snd.plain ?_ (fun _ => rfl) (fun _ _ _ z => nomatch z)
      rw [e0]; exact pd_neg (I _ _ h1)
    · -- one value of and, or
      rename_i op a p
      have s := ih sc _ c h X E o
      refine ⟨⟨fun pins st σ H Q J q => ?_⟩, (pwt_one s.t).pt, fun op' vs p' z => by cases z; exact pwt_one s.t⟩
      exact (pe_one s.d).run pins st σ H Q J q
    · -- and
      obtain ⟨a', h1, h⟩ := bindO h
      obtain ⟨b', h2, rfl⟩ := mapO' h
      have sb := ih sc _ b' h2 X E o
      have e0 : ev cs (.and a' b') = fun ρ => bnd (ev cs a' ρ) fun x => bnd (ofO (truD x)) fun c => if c = true then ev cs b' ρ else ret x := by funext ρ; simp only [ev]
      have w := pwt_and (IT _ _ h1) (sb.w _ _ _ rfl)
      refine ⟨?_, ?_, fun op' vs p' z => ?_⟩
      · rw [e0]; exact pd_and (I _ _ h1) sb.d
      · rw [e0]; exact w.pt
      · cases z; rw [e0]; exact w
    · -- or
      obtain ⟨a', h1, h⟩ := bindO h
      obtain ⟨b', h2, rfl⟩ := mapO' h
      have sb := ih sc _ b' h2 X E o
      have e0 : ev cs (.or a' b') = fun ρ => bnd (ev cs a' ρ) fun x => bnd (ofO (truD x)) fun c => if c = true then ret x else ev cs b' ρ := by funext ρ; simp only [ev]
      have w := pwt_or (IT _ _ h1) (sb.w _ _ _ rfl)
      refine ⟨?_, ?_, fun op' vs p' z => ?_⟩
      · rw [e0]; exact pd_or (I _ _ h1) sb.d
      · rw [e0]; exact w.pt
      · cases z; rw [e0]; exact w
    · -- is None
      obtain ⟨a', h1, rfl⟩ := mapO' h
      have e0 : ev cs (.isN a') = fun ρ => bnd (ev cs a' ρ) fun x => ret (.bl (isNon x)) := by funext ρ; simp only [ev]
      refine ⟨?_, ?_, fun _ _ _ z => nomatch z⟩
      · rw [e0]; exact pd_isN (I _ _ h1)
      · rw [e0]; exact pdt_isN (I _ _ h1)
    · -- is not None
      obtain ⟨a', h1, rfl⟩ := mapO' h
      have e0 : ev cs (.notN a') = fun ρ => bnd (ev cs a' ρ) fun x => ret (.bl (!isNon x)) := by funext ρ; simp only [ev]
      refine ⟨?_, ?_, fun _ _ _ z => nomatch z⟩
      · rw [e0]; exact pd_notN (I _ _ h1)
      · rw [e0]; exact pdt_notN (I _ _ h1)
    · -- a comparison
      obtain ⟨c12, h⟩ := ite_some h
      obtain ⟨a', h1, h⟩ := bindO h
      obtain ⟨b', h2, rfl⟩ := mapO' h
      refine ⟨?_, ?_, fun _ _ _ z => nomatch z⟩
      · rw [ev_cmp]; exact pd_cmp hu (I _ _ h1) (I _ _ h2) c12.1 c12.2
      · rw [ev_cmp]; exact pdt_cmp hu (I _ _ h1) (I _ _ h2) c12.1 c12.2
    · -- two comparisons
      obtain ⟨cc, h⟩ := ite_some h
      obtain ⟨a', h1, h⟩ := bindO h
      obtain ⟨b', h2, h⟩ := bindO h
      obtain ⟨c', h3, rfl⟩ := mapO' h
      refine ⟨?_, ?_, fun _ _ _ z => nomatch z⟩
      · rw [ev_chain]; exact pd_chain hu (I _ _ h1) (I _ _ h2) (I _ _ h3) cc.1 cc.2.1 cc.2.2.1 cc.2.2.2
      · rw [ev_chain]; exact pdt_chain hu (I _ _ h1) (I _ _ h2) (I _ _ h3) cc.1 cc.2.1 cc.2.2.1 cc.2.2.2
    · -- a if t else b
      obtain ⟨t', h1, h⟩ := bindO h
      obtain ⟨a', h2, h⟩ := bindO h
      obtain ⟨b', h3, rfl⟩ := mapO' h
      have e0 : ev cs (.ite t' a' b') = fIf (ev cs t') (ev cs a') (ev cs b') := by funext ρ; simp only [ev, fIf]
      refine ⟨?_, ?_, fun _ _ _ z => nomatch z⟩
      · rw [e0]; exact pd_ite (IT _ _ h1) (I _ _ h2) (I _ _ h3)
      · rw [e0]; exact pdt_ite (IT _ _ h1) (IT _ _ h2) (IT _ _ h3)
    · -- a call
      rename_i f p a args pos
      by_cases hgl : okName f = true ∧ glN sc f = true
      rotate_left
      · rw [if_neg hgl] at h
        obtain ⟨⟨ok, hv, _⟩, h⟩ := ite_some h
        have ok := okName_of ok
        obtain ⟨i, h1, h⟩ := bindO h
        obtain ⟨ds, h2, rfl⟩ := mapO' h
        have h2' := h2
        simp only [mapO] at h2'
        obtain ⟨c1, h3, h4⟩ := bindO h2'
        obtain ⟨l', h5, _⟩ := mapO' h4
        have e0 : ev cs (.callV i (T.fnsOf ds.length) ds) = fun ρ => bnd (ofO (ρ[i]?).join) fun d => bnd (ofO (fnD (T.fnsOf ds.length) d)) fun x => bnd (evs cs ds ρ) fun ds => cs x ds := by funext ρ; simp only [ev]
        refine Snd.plain ?_ (fun _ => rfl) (fun _ _ _ z => nomatch z)
        rw [e0]
        exact pd_callV o.wf o.room o.tk (by rw [o.n]; exact slot_at h1) (by rw [o.sc]; exact vis_of hv) ok (mapO_pds I h2) (fun ρ S es S' e => evs_len e) (cE_star h3 args X.env) (mapO_star h5 X.env pos)
      rw [if_pos hgl] at h
      obtain ⟨ok, hg⟩ := hgl
      have ok := okName_of ok
      have hg := gl_of (X := X) o.sc hg
      by_cases hla : f = "_law_heard" ∧ args = [] ∧ T.lam = true
      · rw [if_pos hla] at h
        obtain ⟨ef, ea, hl⟩ := hla
        have hh := h
        clear h
        subst ef ea
        split at hh
        · rename_i r hd
          obtain ⟨y, body, scope⟩ := r
          obtain ⟨hL, h⟩ := ite_some hh
          obtain ⟨cb, h1, rfl⟩ := mapO' h
          obtain ⟨ar, j, ck, cpos, lpos, rfl, rfl⟩ := isLamD_of hd
          have e0 : ev cs (.heard T.hk cb) = fun ρ => heardM T.hk (ev cs cb ρ) := by funext ρ; simp only [ev]
          refine Snd.plain ?_ (fun _ => rfl) (fun _ _ _ z => nomatch z)
          rw [e0]
          exact pd_heardD o hl hg (by rw [o.sc, o.n]; exact lamD_by hL) (fun X' E' o' => (ih scope body cb h1 X' E' o').d)
        obtain ⟨⟨body, scope⟩, hd, h⟩ := bindO hh
        obtain ⟨hL, h⟩ := ite_some h
        obtain ⟨cb, h1, rfl⟩ := mapO' h
        obtain ⟨lpos, rfl⟩ := isLamE_of hd
        have e0 : ev cs (.heard T.hk cb) = fun ρ => heardM T.hk (ev cs cb ρ) := by funext ρ; simp only [ev]
        refine Snd.plain ?_ (fun _ => rfl) (fun _ _ _ z => nomatch z)
        rw [e0]
        exact pd_heard o hl hg (by rw [o.sc]; exact LamX.lamS_by hL) (fun X' E' o' => (ih scope body cb h1 X' E' o').d)
      rw [if_neg hla] at h
      by_cases hdc : f = "sorted" ∧ args = [] ∧ (isDcE a).isSome = true
      · rw [if_pos hdc] at h
        obtain ⟨ef, ea, _⟩ := hdc
        have hh := h
        clear h
        subst ef ea
        obtain ⟨⟨x, iter, scope⟩, hd, h⟩ := bindO hh
        obtain ⟨⟨hf, _, okx, hb, hvx⟩, h⟩ := ite_some h
        obtain ⟨it, h1, h⟩ := bindO h
        obtain ⟨t, h2, h⟩ := bindO h
        obtain ⟨i, h3, h⟩ := bindO h
        obtain ⟨hin, h⟩ := ite_some h
        cases h
        obtain ⟨p2, k, p3, p1, pos2, rfl⟩ := isDcE_of hd
        have e0 : ev cs (.srtDc ((ownOf N scope).map (·.2)) i it) = fun ρ => bnd (evI cs it ρ) fun ds => ofO (if i < ρ.length then srtOnce ds else none) := by funext ρ; simp only [ev]
        refine Snd.plain ?_ (fun _ => rfl) (fun _ _ _ z => nomatch z)
        rw [e0]
        have hlx : locN scope x = true := by
          simp only [cT] at h2
          by_cases c : locN scope x = true
          · exact c
          · rw [if_neg c] at h2; cases h2
        have okx := okName_of okx
        refine pd_srtDc (Room.units0 o.room1) o.calm o.nd hg (o.wf.free _ hf) (cI_snd (tg := .Name x p1) o I h1) (by rw [o.n, o.sc]; exact blkOk_by hb) (fun s H C cl fp => ?_) (fun s H C cl fp => ?_) (fun v => cI_fold h1 _ v) (by simpa using hin)
        · have z := tgOk_blk (X := X) rfl s H scope C cl fp x hlx
          exact pg_name (X := X.blk s H scope (compEnvC scope cl C X.env) fp) o.nd (by show X.N[i]? = some x; rw [o.n]; exact slot_at h3) z.1 z.2
        · have ob := o.blk s H scope C cl fp
          exact pe_var (X := X.blk s H scope (compEnvC scope cl C X.env) fp) (by show X.N[i]? = some x; rw [o.n]; exact slot_at h3) (by rw [ob.sc]; exact vis_of hvx) okx.d okx.c
      rw [if_neg hdc] at h
      by_cases hst : f = "sorted" ∧ args = [] ∧ (isSetE a).isSome = true
      · rw [if_pos hst] at h
        obtain ⟨ef, ea, _⟩ := hst
        have hh := h
        clear h
        subst ef ea
        obtain ⟨b, hd, h⟩ := bindO hh
        obtain ⟨⟨hf, _, hf2, hg2⟩, h⟩ := ite_some h
        obtain ⟨cb, h1, rfl⟩ := mapO' h
        obtain ⟨p2, q, rfl⟩ := isSetE_of hd
        have e0 : ev cs (.srtSet cb) = fun ρ => bnd (ev cs cb ρ) fun x => ofO (srtSetD x) := by funext ρ; simp only [ev]
        refine Snd.plain ?_ (fun _ => rfl) (fun _ _ _ z => nomatch z)
        rw [e0]
        exact pd_srtSet o.calm hu hg (o.wf.free _ hf) (gl_of o.sc hg2) (o.wf.free _ hf2) (I _ _ h1) (cE_star h1 [] X.env)
      rw [if_neg hst] at h
      obtain ⟨ds, h1, h⟩ := bindO h
      have h1' := h1
      simp only [mapO] at h1'
      obtain ⟨c1, h2, h3⟩ := bindO h1'
      obtain ⟨l', h4, rfl⟩ := mapO' h3
      have hpds := mapO_pds (X := X) (g := g) (E := E) (cs := cs) I h1
      split at h
      · rename_i fn hf
        obtain ⟨hl, h⟩ := ite_some h
        cases h
        have e0 : ev cs (.call f (c1 :: l')) = fun ρ => bnd (evs cs (c1 :: l') ρ) fun ds => cs f ds := by funext ρ; simp only [ev]
        refine Snd.plain ?_ (fun _ => rfl) (fun _ _ _ z => nomatch z)
        rw [e0]
        exact pd_call o.wf hf o.room o.tk hg ok hpds (fun ρ S ds S' e => by rw [evs_len e]; exact hl.symm) (cE_star h2 args X.env) (mapO_star h4 X.env pos)
      · obtain ⟨hf, h⟩ := ite_some h
        obtain ⟨b, hb, rfl⟩ := mapO' h
        have e0 : ev cs (.bi b (c1 :: l')) = fun ρ => bnd (evs cs (c1 :: l') ρ) fun ds => ofO (biD b ds) := by funext ρ; simp only [ev]
        refine Snd.plain ?_ (fun _ => rfl) (fun _ _ _ z => nomatch z)
        rw [e0]
        exact pd_bi o.calm o.en hg (o.wf.free f hf) ok hb hpds (cE_star h2 args X.env) (mapO_star h4 X.env pos)
    · -- a call by keywords
      rename_i f p q qs pos
      obtain ⟨⟨ok, hg⟩, h⟩ := ite_some h
      have ok := okName_of ok
      have hg := gl_of (X := X) o.sc hg
      obtain ⟨ks, h1, h⟩ := bindO h
      obtain ⟨ds, h2, h⟩ := bindO h
      obtain ⟨r, h3, h⟩ := bindO h
      split at h
      · rename_i fn hf
        obtain ⟨hl, h⟩ := ite_some h
        cases h
        have e0 : ev cs (.callK f r.2.2 ds) = fun ρ => bnd (evs cs ds ρ) fun ds => bnd (ofO (mapO (fun i => ds[i]?) r.2.2)) fun es => cs f es := by funext ρ; simp only [ev]
        refine Snd.plain ?_ (fun _ => rfl) (fun _ _ _ z => nomatch z)
        rw [e0]
        have hr : r.1 = f ∧ r.2.1 = ks := of_decide_eq_true (List.find?_some (p := fun r : Str × List Str × List Nat => decide (r.1 = f ∧ r.2.1 = ks)) h3)
        have hm : (f, ks, r.2.2) ∈ T.kws := by
          have := List.mem_of_find?_eq_some h3
          rw [← hr.1, ← hr.2]; exact this
        exact pd_callK o.wf hf o.room o.tk hg ok (mapO_pdk I h2) (fun ρ S ds S' e => by rw [evs_len e, mapO_len h2, mapO_len h1]) hm hl (kw_all h1 X.env pos) (kw_names h1 X.env pos) (kw_plain h1 X.env pos)
      · cases h
    · -- a tuple
      rename_i es kk pos
      by_cases hst : hasStar es = true
      · rw [if_pos hst] at h
        obtain ⟨l, h1, rfl⟩ := mapO' h
        have e0 : ev cs (.tupS l) = fun ρ => bnd (evSt cs l ρ) fun ds => ofO (if ds.length ≤ 1000 then some (.tup ds) else none) := by funext ρ; simp only [ev]
        refine Snd.plain ?_ (fun _ => rfl) (fun _ _ _ z => nomatch z)
        rw [e0]
        exact pd_tupS (pds_st I h1)
      rw [if_neg hst] at h
      obtain ⟨hl, h⟩ := ite_some h
      obtain ⟨l, h1, rfl⟩ := mapO' h
      have e0 : ev cs (.tup l) = fun ρ => bnd (evs cs l ρ) fun ds => ret (.tup ds) := by funext ρ; simp only [ev]
      refine Snd.plain ?_ (fun _ => rfl) (fun _ _ _ z => nomatch z)
      rw [e0]
      exact pd_tup (mapO_pds I h1) fun ρ S ds S' e => by rw [evs_len e, mapO_len h1]; exact hl
    · -- {}
      cases h
      have e0 : ev cs .dict0 = fun _ => ret .dic := by funext ρ; simp only [ev]
      refine Snd.plain ?_ (fun _ => rfl) (fun _ _ _ z => nomatch z)
      rw [e0]; exact pd_dict0
    · -- a list
      obtain ⟨hl, h⟩ := ite_some h
      obtain ⟨l, h1, rfl⟩ := mapO' h
      have e0 : ev cs (.lst l) = fun ρ => bnd (evs cs l ρ) fun ds => ret (.lst ds) := by funext ρ; simp only [ev]
      refine Snd.plain ?_ (fun _ => rfl) (fun _ _ _ z => nomatch z)
      rw [e0]
      exact pd_lst (mapO_pds I h1) fun ρ S ds S' e => by rw [evs_len e, mapO_len h1]; exact hl
    · -- a slice
      obtain ⟨a', h1, h⟩ := bindO h
      obtain ⟨l, h2, h⟩ := bindO h
      obtain ⟨u, h3, rfl⟩ := mapO' h
      have e0 : ev cs (.sl a' l u) = fun ρ => bnd (ev cs a' ρ) fun x => bnd (evP cs l ρ) fun l => bnd (evP cs u ρ) fun h => ofO (sliceD x l h) := by funext ρ; simp only [ev]
      refine Snd.plain ?_ (fun _ => rfl) (fun _ _ _ z => nomatch z)
      rw [e0]
      exact pd_sl (I _ _ h1) (cE_part I h2) (cE_part I h3)
    · -- backwards
      obtain ⟨a', h1, rfl⟩ := mapO' h
      have e0 : ev cs (.rev a') = fun ρ => bnd (ev cs a' ρ) fun x => ofO (revD x) := by funext ρ; simp only [ev]
      refine Snd.plain ?_ (fun _ => rfl) (fun _ _ _ z => nomatch z)
      rw [e0]; exact pd_rev (I _ _ h1)
    · cases h
    · cases h
    · -- a field
      obtain ⟨a', h1, rfl⟩ := mapO' h
      rename_i f _
      have e0 : ev cs (.att a' f) = fun ρ => bnd (ev cs a' ρ) fun x => ofO (attD f x) := by funext ρ; simp only [ev]
      refine Snd.plain ?_ (fun _ => rfl) (fun _ _ _ z => nomatch z)
      rw [e0]; exact pd_att (i := 0) o.en (I _ _ h1)
    · -- an item
      rename_i hsl _
      obtain ⟨a', h1, h⟩ := bindO h
      obtain ⟨i', h2, rfl⟩ := mapO' h
      have e0 : ev cs (.ix a' i') = fun ρ => bnd (ev cs a' ρ) fun x => bnd (ev cs i' ρ) fun y => ixM x y := by funext ρ; simp only [ev]
      refine Snd.plain ?_ (fun _ => rfl) (fun _ _ _ z => nomatch z)
      rw [e0]
      exact pd_ix (I _ _ h1) (I _ _ h2) (plainIx_of fun lo hi st p z => by first | exact hsl _ _ _ _ z | (subst z; simp_all))
    · -- a comprehension
      rename_i elt tg iter ifs ai scope pos
      obtain ⟨⟨ea, hb, hf⟩, hh⟩ := ite_some h; clear h; subst ea
      obtain ⟨it, h1, h⟩ := bindO hh
      obtain ⟨t, h2, h⟩ := bindO h
      obtain ⟨fs, h3, h⟩ := bindO h
      obtain ⟨el, h4, h⟩ := bindO h
      obtain ⟨hs, h⟩ := ite_some h
      cases h
      refine Snd.plain ?_ (fun _ => rfl) (fun _ _ _ z => nomatch z)
      rw [ev_lc]
      exact pd_lc o.calm o.nd (lc_parts o ih hb hf h1 h2 h3 h4 hs)
    · -- two clauses
      rename_i elt tg iter ifs ai tg1 iter1 ifs1 ai1 scope pos
      obtain ⟨⟨ea, eb, hb, hf, hf1⟩, hh⟩ := ite_some h; clear h; subst ea eb
      obtain ⟨it, h1, h⟩ := bindO hh
      obtain ⟨t, h2, h⟩ := bindO h
      obtain ⟨fs, h3, h⟩ := bindO h
      obtain ⟨it1, h1', h⟩ := bindO h
      obtain ⟨t1, h2', h⟩ := bindO h
      obtain ⟨fs1, h3', h⟩ := bindO h
      obtain ⟨el, h4, h⟩ := bindO h
      obtain ⟨⟨hs, hs'⟩, h⟩ := ite_some h
      cases h
      have e0 : ev cs (.lc2 ((ownOf N scope).map (·.2)) (tslots t1) t it fs t1 it1 fs1 el) = fun ρ => bnd (evI cs it ρ) fun ds => bnd (noX (compGo2 (lc2Body ((ownOf N scope).map (·.2)) (tslots t1) t (evTs cs fs) (evI cs it1) t1 (evTs cs fs1) (ev cs el) ρ) ds [])) fun out => ret (.lst out) := by funext ρ; simp only [ev]; rfl
      refine Snd.plain ?_ (fun _ => rfl) (fun _ _ _ z => nomatch z)
      rw [e0]
      exact pd_lc2 o.calm o.nd (cI_snd o I h1) (by rw [o.n, o.sc]; exact blkOk_by hb) (subL_of hs')
        (fun s H C cl fp => (pg_of (X := X.blk s H scope (compEnvC scope cl C X.env) fp) (g := g) o.nd o.calm (tgOk_blk rfl s H scope C cl fp) tg t (by show cT X.N scope tg = some t; rw [o.n]; exact h2)).1)
        (fun s H C cl fp => pts_of (X := X.blk s H scope (compEnvC scope cl C X.env) fp) (fun e c h => (ih _ e c h _ _ (o.blk s H scope C cl fp)).t) hf h3)
        (fun s H C cl fp => cI_snd (o.blk s H scope C cl fp) (fun e c h => (ih _ e c h _ _ (o.blk s H scope C cl fp)).d) h1')
        (fun s H C cl fp => (pg_of (X := X.blk s H scope (compEnvC scope cl C X.env) fp) (g := g) o.nd o.calm (tgOk_blk rfl s H scope C cl fp) tg1 t1 (by show cT X.N scope tg1 = some t1; rw [o.n]; exact h2')).1)
        (fun s H C cl fp => pts_of (X := X.blk s H scope (compEnvC scope cl C X.env) fp) (fun e c h => (ih _ e c h _ _ (o.blk s H scope C cl fp)).t) hf1 h3')
        (fun s H C cl fp => (ih _ _ _ h4 _ _ (o.blk s H scope C cl fp)).d) (fun x => cI_fold h1 _ x) (fun env x => cI_fold h1' env x) (subL_of hs) (fun i hi => hi)
    · cases h
end Pur

/-! Pur11: the state between statements. -/
namespace Pur
open
    PySem PySem.Spec PyProof.Rows L2
open Classical in
/-- the state between statements: from the def's entry (F0, H0) -/
structure SS (K : PySem.W.Frag) (g : G) (Fb F0 H0 F H : Hp) (σ : L2.St) (δ : Ev) (S : Pn) : Prop where
  fb : Same Fb F
  fw : Fwd g F0 H0 F H S
  pa : ∃ vs, H0 g.pa = some (.lst vs)
  len : δ.length = σ.length
  val : ∀ (i : Nat) (d : D), δ[i]? = some (some (.val d)) → ∃ v, σ[i]? = some (some v) ∧ Rep K g F d v
  own : ∀ (i : Nat) (xs : List D), δ[i]? = some (some (.own xs)) → ∃ a vs, σ[i]? = some (some (.ref a)) ∧ H a = some (.lst vs) ∧ F a = none ∧ NT H0 a ∧ Reps K g F xs vs
  dis : ∀ (i j : Nat) (xs ys : List D) (a : Addr), i ≠ j → δ[i]? = some (some (.own xs)) → δ[j]? = some (some (.own ys)) → σ[i]? = some (some (.ref a)) → σ[j]? ≠ some (some (.ref a))
theorem vw_len (l : List Nat) (δ : Ev) : (vw l δ).length = δ.length := by unfold vw; simp
theorem frz_len (l : List Nat) (δ : Ev) : (frz l δ).length = δ.length := by unfold frz; simp
theorem vw_some {l : List Nat} {δ : Ev} {i : Nat} {d : D} (h : (vw l δ)[i]? = some (some d)) : δ[i]? = some (some (.val d)) ∨ ∃ xs, δ[i]? = some (some (.own xs)) ∧ i ∈ l ∧ d = .lst xs := by
  unfold vw at h
  rw [List.getElem?_mapIdx] at h
  cases e : δ[i]? with
  | none =>
        rw [e] at h; cases h
  | some o =>
    rw [e] at h
    cases o with
    | none => cases h
    | some s =>
      cases s with
      | val d' => cases h; exact .inl rfl
      | own xs =>
        simp only [Option.map_some, Option.some.injEq] at h
        split at h
        · rename_i c
          cases h
          exact .inr ⟨xs, rfl, by simpa using c, rfl⟩
        · cases h
theorem frz_val {l : List Nat} {δ : Ev} {i : Nat} {d : D} (h : (frz l δ)[i]? = some (some (.val d))) : δ[i]? = some (some (.val d)) ∨ ∃ xs, δ[i]? = some (some (.own xs)) ∧ i ∈ l ∧ d = .lst xs := by
  unfold frz at h
  rw [List.getElem?_mapIdx] at h
  cases e : δ[i]? with
  | none =>
        rw [e] at h; cases h
  | some o =>
    rw [e] at h
    cases o with
    | none => cases h
    | some s =>
      cases s with
      | val d' => cases h; exact .inl rfl
      | own xs =>
        simp only [Option.map_some, Option.some.injEq] at h
        split at h
        · rename_i c
          cases h
          exact .inr ⟨xs, rfl, by simpa using c, rfl⟩
        · cases h
theorem frz_own {l : List Nat} {δ : Ev} {i : Nat} {xs : List D} (h : (frz l δ)[i]? = some (some (.own xs))) : δ[i]? = some (some (.own xs)) ∧ i ∉ l := by
  unfold frz at h
  rw [List.getElem?_mapIdx] at h
  cases e : δ[i]? with
  | none =>
        rw [e] at h; cases h
  | some o =>
    rw [e] at h
    cases o with
    | none => cases h
    | some s =>
      cases s with
      | val d' => cases h
      | own ys =>
        simp only [Option.map_some, Option.some.injEq] at h
        split at h
        · cases h
        · rename_i c
          cases h
          exact ⟨rfl, by simpa using c⟩
section
variable {K : PySem.W.Frag} {g : G} {Fb F0 H0 F H : Hp} {σ : L2.St} {δ : Ev} {S : Pn}
open Classical in
/-- the named own lists frozen -/
noncomputable def withOwn (l : List Nat) (F H : Hp) (σ : L2.St) (δ : Ev) : Hp := fun a => if ∃ (i : Nat) (xs : List D), i ∈ l ∧ δ[i]? = some (some (.own xs)) ∧ σ[i]? = some (some (.ref a)) then H a else F a
theorem withOwn_in {l : List Nat} {a : Addr} {i : Nat} {xs : List D} (hi : i ∈ l) (h1 : δ[i]? = some (some (.own xs))) (h2 : σ[i]? = some (some (.ref a))) : withOwn l F H σ δ a = H a := by
  unfold withOwn
  rw [if_pos ⟨i, xs, hi, h1, h2⟩]
theorem withOwn_out {l : List Nat} {a : Addr} (h : ¬ ∃ (i : Nat) (xs : List D), i ∈ l ∧ δ[i]? = some (some (.own xs)) ∧ σ[i]? = some (some (.ref a))) : withOwn l F H σ δ a = F a := by
  unfold withOwn
  rw [if_neg h]
theorem SS.ne (s : SS K g Fb F0 H0 F H σ δ S) {a : Addr} (h : NT H0 a) : a ≠ g.pa := by
  obtain ⟨vs, e⟩ := s.pa
  exact (h.ne e (fun _ z => nomatch z)).symm
theorem SS.same (s : SS K g Fb F0 H0 F H σ δ S) (l : List Nat) : Same F (withOwn l F H σ δ) := fun a o h => by
  by_cases c : ∃ (i : Nat) (xs : List D), i ∈ l ∧ δ[i]? = some (some (.own xs)) ∧ σ[i]? = some (some (.ref a))
  · obtain ⟨i, xs, hi, h1, h2⟩ := c
    obtain ⟨b, vs, e, _, hF, _⟩ := s.own i xs h1
    rw [h2] at e; cases e
    rw [hF] at h; cases h
  · rw [withOwn_out c]; exact h
theorem SS.fwd0 (s : SS K g Fb F0 H0 F H σ δ S) (l : List Nat) : Fwd g F0 H0 (withOwn l F H σ δ) H S where
  ff := s.fw.ff.trans (s.same l)
  fh := fun a o h => by
    by_cases c : ∃ (i : Nat) (xs : List D), i ∈ l ∧ δ[i]? = some (some (.own xs)) ∧ σ[i]? = some (some (.ref a))
    · obtain ⟨i, xs, hi, h1, h2⟩ := c
      rw [withOwn_in hi h1 h2] at h; exact h
    · rw [withOwn_out c] at h; exact s.fw.fh a o h
  hh := s.fw.hh
  hf := fun a us h n t f => by
    rw [withOwn_out]
    · exact s.fw.hf a us h n t f
    · rintro ⟨i, xs, hi, h1, h2⟩
      obtain ⟨b, vs, e, _, _, h0, _⟩ := s.own i xs h1
      rw [h2] at e; cases e
      exact absurd rfl (h0.ne h t)
  pn := by
    refine ⟨?_, s.fw.pn.at_, s.same l _ _ s.fw.pn.cs, s.fw.pn.tb, fun a ps => ?_, fun e he => ⟨s.same l _ _ (s.fw.pn.xn e he).1, s.same l _ _ (s.fw.pn.xn e he).2⟩⟩
    · rw [withOwn_out]
      · exact s.fw.pn.fr
      · rintro ⟨i, xs, hi, h1, h2⟩
        obtain ⟨b, vs, e, _, _, h0, _⟩ := s.own i xs h1
        rw [h2] at e; cases e
        exact absurd rfl (s.ne h0)
    · by_cases c : ∃ (i : Nat) (xs : List D), i ∈ l ∧ δ[i]? = some (some (.own xs)) ∧ σ[i]? = some (some (.ref a))
      · obtain ⟨i, xs, hi, h1, h2⟩ := c
        rw [withOwn_in hi h1 h2]
        obtain ⟨b, vs, e, hH, _⟩ := s.own i xs h1
        rw [h2] at e; cases e
        rw [hH]; intro z; cases z
      · rw [withOwn_out c]; exact s.fw.pn.nt a ps
theorem SS.stt (s : SS K g Fb F0 H0 F H σ δ S) (l : List Nat) : Stt K g (withOwn l F H σ δ) H σ (vw l δ) S where
  fh := (s.fwd0 l).fh
  pn := (s.fwd0 l).pn
  len := by rw [vw_len]; exact s.len
  env := fun i d h => by
    rcases vw_some h with h | ⟨xs, h', hi, rfl⟩
    · obtain ⟨v, hv, r⟩ := s.val i d h
      exact ⟨v, hv, Rep.mono (s.same l) d v r⟩
    · obtain ⟨a, vs, hv, hH, hF, h0, r⟩ := s.own i xs h'
      refine ⟨.ref a, hv, ?_⟩
      simp only [Rep]
      exact ⟨a, vs, rfl, by rw [withOwn_in hi h' hv]; exact hH, Reps.mono (s.same l) xs vs r⟩
/-- behind an evaluation: the named ones frozen -/
theorem SS.after (s : SS K g Fb F0 H0 F H σ δ S) (l : List Nat) {F' H' : Hp} {S' : Pn} (f : Fwd g (withOwn l F H σ δ) H F' H' S') : SS K g Fb F0 H0 F' H' σ (frz l δ) S' where
  fb := s.fb.trans ((s.same l).trans f.ff)
  fw := (s.fwd0 l).trans f
  pa := s.pa
  len := by rw [frz_len]; exact s.len
  val := fun i d h => by
    rcases frz_val h with h | ⟨xs, h', hi, rfl⟩
    · obtain ⟨v, hv, r⟩ := s.val i d h
      exact ⟨v, hv, Rep.mono ((s.same l).trans f.ff) d v r⟩
    · obtain ⟨a, vs, hv, hH, hF, h0, r⟩ := s.own i xs h'
      refine ⟨.ref a, hv, ?_⟩
      simp only [Rep]
      exact ⟨a, vs, rfl, f.ff _ _ (by rw [withOwn_in hi h' hv]; exact hH), Reps.mono ((s.same l).trans f.ff) xs vs r⟩
  own := fun i xs h => by
    obtain ⟨h, hi⟩ := frz_own h
    obtain ⟨a, vs, hv, hH, hF, h0, r⟩ := s.own i xs h
    refine ⟨a, vs, hv, f.hh a _ hH (s.ne h0) (fun _ z => nomatch z), f.hf a _ (hH) (fun _ z => nomatch z) (fun _ z => nomatch z) ?_, h0, Reps.mono ((s.same l).trans f.ff) xs vs r⟩
    rw [withOwn_out]
    · exact hF
    · rintro ⟨j, ys, hj, h1, h2⟩
      have : i ≠ j := fun e => hi (e ▸ hj)
      exact s.dis i j xs ys a this h h1 hv h2
  dis := fun i j xs ys a hij h1 h2 => s.dis i j xs ys a hij (frz_own h1).1 (frz_own h2).1
/-- behind an evaluation whose outcome names no object -/
theorem SS.back (s : SS K g Fb F0 H0 F H σ δ S) (l : List Nat) {F' H' : Hp} {S' : Pn} (f : Fwd g (withOwn l F H σ δ) H F' H' S') : SS K g Fb F0 H0 F H' σ δ S' where
  fb := s.fb
  fw := {
    ff := s.fw.ff
    fh := ((s.same l).trans f.ff).trans f.fh
    hh := fun a o h n t => f.hh a o (s.fw.hh a o h n t) n t
    hf := s.fw.hf
    pn := ⟨s.fw.pn.fr, f.pn.at_, by
      have h1 := f.ff _ _ (s.same l _ _ s.fw.pn.cs)
      have h2 := f.pn.cs
      have e : (some (HO.lst (S.cells.map V.int)) : Option HO) = some (HO.lst (S'.cells.map V.int)) := h1.symm.trans h2
      rw [← e]
      exact s.fw.pn.cs, f.pn.tb, s.fw.pn.nt, s.fw.pn.xn⟩ }
  pa := s.pa
  len := s.len
  val := s.val
  own := fun i xs h => by
    obtain ⟨a, vs, hv, hH, hF, h0, r⟩ := s.own i xs h
    exact ⟨a, vs, hv, f.hh a _ hH (s.ne h0) (fun _ z => nomatch z), hF, h0, r⟩
  dis := s.dis
theorem flat_rep {F F' : Hp} {d : D} {v : V} (h : d.flat = true) (r : Rep K g F d v) : Rep K g F' d v := by
  cases d <;> simp only [D.flat] at h <;> (try (cases h; done)) <;> simp only [Rep] at r ⊢ <;> exact r
/-- behind evS -/
theorem SS.evd (s : SS K g Fb F0 H0 F H σ δ S) (l : List Nat) {F' H' : Hp} {S' : Pn} (f : Fwd g (withOwn l F H σ δ) H F' H' S') {d : D} {v : V} (r : Rep K g F' d v) :
    ∃ F'', SS K g Fb F0 H0 F'' H' σ (if d.flat = true then δ else frz l δ) S' ∧ Rep K g F'' d v := by
  by_cases c : d.flat = true
  · rw [if_pos c]
    exact ⟨F, s.back l f, flat_rep c r⟩
  · rw [if_neg c]
    exact ⟨F', s.after l f, r⟩
/-- a value is stored in a slot -/
theorem SS.set (s : SS K g Fb F0 H0 F H σ δ S) {i : Nat} {d : D} {v : V} (r : Rep K g F d v) (hi : i < δ.length) : SS K g Fb F0 H0 F H (σ.set i (some v)) (δ.set i (some (.val d))) S where
  fb := s.fb
  fw := s.fw
  pa := s.pa
  len := by rw [List.length_set, List.length_set]; exact s.len
  val := fun j e hj => by
    by_cases h : i = j
    · subst h
      rw [List.getElem?_set_self hi] at hj
      cases hj
      exact ⟨v, List.getElem?_set_self (by rw [← s.len]; exact hi), r⟩
    · rw [List.getElem?_set_ne h] at hj
      obtain ⟨w, hw, rw'⟩ := s.val j e hj
      exact ⟨w, by rw [List.getElem?_set_ne h]; exact hw, rw'⟩
  own := fun j xs hj => by
    by_cases h : i = j
    · subst h
      rw [List.getElem?_set_self hi] at hj
      cases hj
    · rw [List.getElem?_set_ne h] at hj
      obtain ⟨a, vs, hv, q⟩ := s.own j xs hj
      exact ⟨a, vs, by rw [List.getElem?_set_ne h]; exact hv, q⟩
  dis := fun j k xs ys a hjk h1 h2 h3 => by
    have n1 : i ≠ j := fun e => by subst e; rw [List.getElem?_set_self hi] at h1; cases h1
    have n2 : i ≠ k := fun e => by subst e; rw [List.getElem?_set_self hi] at h2; cases h2
    rw [List.getElem?_set_ne n1] at h1 h3
    rw [List.getElem?_set_ne n2] at h2
    rw [List.getElem?_set_ne n2]
    exact s.dis j k xs ys a hjk h1 h2 h3
/-- a new own list in a slot: it stands at a, open, and no slot held it -/
theorem SS.setO (s : SS K g Fb F0 H0 F H σ δ S) {i : Nat} {xs : List D} {a : Addr} {vs : List V} (hi : i < δ.length) (hH : H a = some (.lst vs)) (hF : F a = none) (h0 : NT H0 a) (r : Reps K g F xs vs)
    (new : ∀ (j : Nat) (ys : List D), j ≠ i → δ[j]? = some (some (.own ys)) → σ[j]? ≠ some (some (.ref a))) : SS K g Fb F0 H0 F H (σ.set i (some (.ref a))) (δ.set i (some (.own xs))) S where
  fb := s.fb
  fw := s.fw
  pa := s.pa
  len := by rw [List.length_set, List.length_set]; exact s.len
  val := fun j e hj => by
    by_cases h : i = j
    · subst h
      rw [List.getElem?_set_self hi] at hj
      cases hj
    · rw [List.getElem?_set_ne h] at hj
      obtain ⟨w, hw, rw'⟩ := s.val j e hj
      exact ⟨w, by rw [List.getElem?_set_ne h]; exact hw, rw'⟩
  own := fun j ys hj => by
    by_cases h : i = j
    · subst h
      rw [List.getElem?_set_self hi] at hj
      cases hj
      exact ⟨a, vs, List.getElem?_set_self (by rw [← s.len]; exact hi), hH, hF, h0, r⟩
    · rw [List.getElem?_set_ne h] at hj
      obtain ⟨b, ws, hv, q⟩ := s.own j ys hj
      exact ⟨b, ws, by rw [List.getElem?_set_ne h]; exact hv, q⟩
  dis := fun j k ys zs b hjk h1 h2 h3 => by
    by_cases e1 : i = j
    · subst e1
      rw [List.getElem?_set_ne hjk] at h2 ⊢
      rw [List.getElem?_set_self (by rw [← s.len]; exact hi)] at h3
      cases h3
      exact new k zs (Ne.symm hjk) h2
    · rw [List.getElem?_set_ne e1] at h1 h3
      by_cases e2 : i = k
      · subst e2
        rw [List.getElem?_set_self (by rw [← s.len]; exact hi)]
        intro z
        cases z
        exact new j ys (Ne.symm e1) h1 h3
      · rw [List.getElem?_set_ne e2] at h2 ⊢
        exact s.dis j k ys zs b hjk h1 h2 h3
/-- an own list is written in place -/
theorem SS.upd (s : SS K g Fb F0 H0 F H σ δ S) {i : Nat} {xs ys : List D} {a : Addr} {ws : List V} (h : δ[i]? = some (some (.own xs))) (ha : σ[i]? = some (some (.ref a))) (r : Reps K g F ys ws) :
    SS K g Fb F0 H0 F (upd H a (.lst ws)) σ (δ.set i (some (.own ys))) S := by
  obtain ⟨b, vs, hv, hH, hF, h0, _⟩ := s.own i xs h
  rw [ha] at hv; cases hv
  have hi : i < δ.length := (List.getElem?_eq_some_iff.mp h).1
  refine ⟨s.fb, s.fw.upd' h0 hF (Ne.symm (s.ne h0)) (by rw [hH]; exact noTab_lst), s.pa, by rw [List.length_set]; exact s.len, fun j e hj => ?_, fun j zs hj => ?_, fun j k zs us c hjk h1 h2 h3 => ?_⟩
  · by_cases n : i = j
    · subst n; rw [List.getElem?_set_self hi] at hj; cases hj
    · rw [List.getElem?_set_ne n] at hj; exact s.val j e hj
  · by_cases n : i = j
    · subst n
      rw [List.getElem?_set_self hi] at hj
      cases hj
      exact ⟨a, ws, ha, upd_same, hF, h0, r⟩
    · rw [List.getElem?_set_ne n] at hj
      obtain ⟨c, us, hv, hH', q⟩ := s.own j zs hj
      refine ⟨c, us, hv, ?_, q⟩
      rw [upd_ne]
      · exact hH'
      · intro e; subst e
        exact s.dis i j xs zs c n h hj ha hv
  · have key : ∀ (m : Nat) (ts : List D), (δ.set i (some (.own ys)))[m]? = some (some (.own ts)) → ∃ ts', δ[m]? = some (some (.own ts')) := fun m ts hm => by
      by_cases n : i = m
      · subst n; exact ⟨xs, h⟩
      · rw [List.getElem?_set_ne n] at hm; exact ⟨ts, hm⟩
    obtain ⟨_, k1⟩ := key j zs h1
    obtain ⟨_, k2⟩ := key k us h2
    exact s.dis j k _ _ c hjk k1 k2 h3
end
end Pur

/-! Pur12: statements, rule by rule. -/
namespace Pur
open
    PySem PySem.Spec PyProof.Rows L2
/--
    what is wanted behind a statement -/
def PostS (K : PySem.W.Frag) (g : G) (E : XK) (Fb F0 H0 : Hp) (r : Rs Fl) (D : Ends) : Prop := match r with
  | .ok (.next δ) S => ∀ F H σ, SS K g Fb F0 H0 F H σ δ S → D.nx σ H
  | .ok (.brk δ) S => ∀ F H σ, SS K g Fb F0 H0 F H σ δ S → D.bk σ H
  | .ok (.cont δ) S => ∀ F H σ, SS K g Fb F0 H0 F H σ δ S → D.ct σ H
  | .ok (.ret d) S => ∀ F H v, Fwd g F0 H0 F H S → Rep K g F d v → D.rt v H
  | .exc c fs S => ∀ F H dx fv, Fwd g F0 H0 F H S → H dx = some (.xd fv) → RepF K g F fs fv → E (.ref (He.ga K c)) (some dx) H
  | .stuck => False
def tSt (K : PySem.W.Frag) (g : G) (E : XK) (f : Ev → M Fl) : TS := fun D σ H => ∃ Fb F0 H0 F δ S, SS K g Fb F0 H0 F H σ δ S ∧ PostS K g E Fb F0 H0 (f δ S) D
abbrev PSD (X : Cx) (g : G) (E : XK) (st : Stmt) (f : Ev → M Fl) : Prop := PS X st (tSt X.K g E f)
abbrev PSsD (X : Cx) (g : G) (E : XK) (sts : List Stmt) (f : Ev → M Fl) : Prop := PSs X sts (tSt X.K g E f)
section
variable {X : Cx} {g : G} {E : XK}
theorem PSs.weak {st : List Stmt} {t t' : TS} (h : PSs X st t) (w : ∀ D σ H, t' D σ H → t D σ H) : PSs X st t' := ⟨fun pins s σ H D I q => h.run pins s σ H D I (w _ _ _ q)⟩
section
variable {K : PySem.W.Frag} {Fb F0 H0 F H : Hp} {σ : L2.St} {δ : Ev} {S : Pn} {En : Ends}
/-- an expression within a statement -/
theorem PostS.expr {e : CE} {cs : CS} {k : D × Ev → M Fl} (s : SS K g Fb F0 H0 F H σ δ S) (h : PostS K g E Fb F0 H0 (bnd (evS cs e δ) k S) En) :
    tD K g E (ev cs e) σ H fun v H' => ∃ d δ' F' S', SS K g Fb F0 H0 F' H' σ δ' S' ∧ Rep K g F' d v ∧ PostS K g E Fb F0 H0 (k (d, δ') S') En := by
  refine ⟨_, _, S, s.stt (men e), ?_⟩
  unfold evS at h
  rw [bnd_assoc] at h
  unfold bnd at h
  cases z : ev cs e (vw (men e) δ) S with
  | ok d S' =>
    rw [z] at h
    intro F' H' v f r
    obtain ⟨F'', s', r'⟩ := s.evd (men e) f r
    exact ⟨d, _, F'', S', s', r', h⟩
  | exc c fs S' =>
    rw [z] at h
    intro F' H' dx fv f e1 e2
    exact h F' H' dx fv ((s.fwd0 (men e)).trans f) e1 e2
  | stuck => rw [z] at h; exact h
theorem PostS.test {e : CE} {cs : CS} {k : Bool → M Fl} (s : SS K g Fb F0 H0 F H σ δ S) (h : PostS K g E Fb F0 H0 (bnd (evTS cs e δ) k S) En) :
    tDB K g E (fT (ev cs e)) σ H fun b H' => ∃ F' S', SS K g Fb F0 H0 F' H' σ δ S' ∧ PostS K g E Fb F0 H0 (k b S') En := by
  refine ⟨_, _, S, s.stt (men e), ?_⟩
  have h : PostS K g E Fb F0 H0 (bnd (fT (ev cs e) (vw (men e) δ)) k S) En := h
  unfold bnd at h
  cases z : fT (ev cs e) (vw (men e) δ) S with
  | ok b S' =>
    rw [z] at h
    intro F' H' v f r
    cases r
    exact ⟨F, S', s.back (men e) f, h⟩
  | exc c fs S' =>
    rw [z] at h
    intro F' H' dx fv f e1 e2
    exact h F' H' dx fv ((s.fwd0 (men e)).trans f) e1 e2
  | stuck => rw [z] at h; exact h
theorem PostS.ofO {o : Option Fl} {S : Pn} (h : PostS K g E Fb F0 H0 (Pur.ofO o S) En) : ∃ fl, o = some fl ∧ PostS K g E Fb F0 H0 (.ok fl S) En := by
  cases o with
  | none => exact h.elim
  | some a => exact ⟨a, rfl, h⟩
end
/-! ### targets -/
mutual
theorem bindS_of : ∀ (t : CT) (d : D) (δ δ' : Ev), bindS t d δ = some δ' → δ'.length = δ.length ∧ ∃ ρ', bindT t d (vw [] δ) = some ρ' ∧ ρ' = vw [] δ' ∧ (∀ i, i ∉ tslots t → δ'[i]? = δ[i]?) ∧ ∀ i ∈ tslots t, ∃ d, δ'[i]? = some (some (.val d))
  | .v i, d, δ, δ', h => by
    simp only [bindS] at h
    obtain ⟨c, rfl⟩ := ofIf h
    refine ⟨by rw [List.length_set], (vw [] δ).set i (some d), ?_, ?_, fun j hj => ?_, fun j hj => ?_⟩
    · simp only [bindT]
      rw [if_pos (by rw [vw_len]; exact c)]
    · apply List.ext_getElem?
      intro j
      by_cases e : i = j
      · subst e
        rw [List.getElem?_set_self (by rw [vw_len]; exact c)]
        unfold vw
        rw [List.getElem?_mapIdx, List.getElem?_set_self c]
        rfl
      · rw [List.getElem?_set_ne e]
        unfold vw
        rw [List.getElem?_mapIdx, List.getElem?_mapIdx, List.getElem?_set_ne e]
    · rw [List.getElem?_set_ne]
      intro e; subst e; exact hj (by simp [tslots])
    · have : j = i := by simpa [tslots] using hj
      subst this
      exact ⟨d, List.getElem?_set_self c⟩
  | .t es, d, δ, δ', h => by
    cases d <;> simp only [bindS] at h <;> (try (cases h; done))
    rename_i ds
    obtain ⟨h1, ρ', h2, h3, h4, h5⟩ := bindSs_of es ds δ δ' h
    exact ⟨h1, ρ', by simp only [bindT]; exact h2, h3, by simpa [tslots] using h4, by simpa [tslots] using h5⟩
theorem bindSs_of : ∀ (t : List CT) (d : List D) (δ δ' : Ev), bindSs t d δ = some δ' → δ'.length = δ.length ∧ ∃ ρ', bindTs t d (vw [] δ) = some ρ' ∧ ρ' = vw [] δ' ∧ (∀ i, i ∉ tslotss t → δ'[i]? = δ[i]?) ∧ ∀ i ∈ tslotss t, ∃ d, δ'[i]? = some (some (.val d))
  | [], ds, δ, δ', h => by
    cases ds <;> simp only [bindSs] at h <;> (try (cases h; done))
    cases h
    exact ⟨rfl, vw [] δ, by simp only [bindTs], rfl, fun _ _ => rfl, fun i hi => by simp [tslotss] at hi⟩
  | t :: ts, ds, δ, δ', h => by
    cases ds <;> simp only [bindSs] at h <;> (try (cases h; done))
    rename_i d ds
    obtain ⟨δ1, e1, e2⟩ := bindO h
    obtain ⟨a1, ρ1, a2, a3, a4, a5⟩ := bindS_of t d δ δ1 e1
    obtain ⟨b1, ρ2, b2, b3, b4, b5⟩ := bindSs_of ts ds δ1 δ' e2
    subst a3
    refine ⟨b1.trans a1, ρ2, ?_, b3, fun i hi => ?_, fun i hi => ?_⟩
    · simp only [bindTs]
      rw [a2]
      exact b2
    · simp only [tslotss, List.mem_append, not_or] at hi
      rw [b4 i hi.2, a4 i hi.1]
    · simp only [tslotss, List.mem_append] at hi
      by_cases c : i ∈ tslotss ts
      · exact b5 i c
      · rcases hi with hi | hi
        · obtain ⟨d', hd⟩ := a5 i hi
          exact ⟨d', by rw [b4 i c]; exact hd⟩
        · exact absurd hi c
end
/-- behind a target -/
theorem SS.bind {K : PySem.W.Frag} {Fb F0 H0 F H : Hp} {σ σ' : L2.St} {δ δ' : Ev} {S : Pn} {t : CT} {d : D} (s : SS K g Fb F0 H0 F H σ δ S) (h : bindS t d δ = some δ') (st : Stt K g F H σ' (vw [] δ') S) (b : SlotsBut (tslots t) σ σ') : SS K g Fb F0 H0 F H σ' δ' S := by
  obtain ⟨h1, ρ', h2, h3, h4, h5⟩ := bindS_of t d δ δ' h
  have key : ∀ (i : Nat) (xs : List D), δ'[i]? = some (some (.own xs)) → i ∉ tslots t ∧ δ[i]? = some (some (.own xs)) ∧ σ'[i]? = σ[i]? := fun i xs hi => by
    have ni : i ∉ tslots t := fun z => by
      obtain ⟨d', hd⟩ := h5 i z
      rw [hi] at hd; cases hd
    exact ⟨ni, (h4 i ni) ▸ hi, b.2 i ni⟩
  refine ⟨s.fb, s.fw, s.pa, by rw [h1, s.len, b.1], fun i d' hi => ?_, fun i xs hi => ?_, fun i j xs ys a hij k1 k2 k3 => ?_⟩
  · have : (vw [] δ')[i]? = some (some d') := by
      unfold vw
      rw [List.getElem?_mapIdx, hi]
      rfl
    exact st.env i d' this
  · obtain ⟨ni, k1, k2⟩ := key i xs hi
    rw [k2]
    exact s.own i xs k1
  · obtain ⟨_, m1, m2⟩ := key i xs k1
    obtain ⟨_, n1, n2⟩ := key j ys k2
    rw [m2] at k3
    rw [n2]
    exact s.dis i j xs ys a hij m1 n1 k3
/-- a target that is stored to -/
theorem tgt_read {K : PySem.W.Frag} {Fb F0 H0 F H : Hp} {σ : L2.St} {δ δ' : Ev} {S : Pn} {t : CT} {d : D} {v : V} {Q : L2.St → Hp → Prop} (s : SS K g Fb F0 H0 F H σ δ S) (r : Rep K g F d v) (h : bindS t d δ = some δ') (q : ∀ σ', SS K g Fb F0 H0 F H σ' δ' S → Q σ' H) : tG K g t v σ H Q := by
  obtain ⟨h1, ρ', h2, h3, h4, h5⟩ := bindS_of t d δ δ' h
  subst h3
  have st := s.stt []
  have st' : Stt K g F H σ (vw [] δ) S := ⟨s.fw.fh, s.fw.pn, st.len, fun i e he => by
    rcases vw_some he with he | ⟨xs, _, hi, _⟩
    · exact s.val i e he
    · cases hi⟩
  exact ⟨F, vw [] δ, S, d, vw [] δ', st', r, h2, fun σ' st2 b => q σ' (s.bind h st2 b)⟩

/-! ### blocks, if, return -/
theorem pssd_nil : PSsD X g E [] (fun δ => ret (.next δ)) := PSs.weak pss_nil fun D σ H h => by
  obtain ⟨Fb, F0, H0, F, δ, S, s, p⟩ := h
  exact p F H σ s
def fSeq (f r : Ev → M Fl) : Ev → M Fl := fun δ => bnd (f δ) fun fl => match fl with
  | .next δ' => r δ'
  | .ret d => ret (.ret d)
  | .brk δ' => ret (.brk δ')
  | .cont δ' => ret (.cont δ')
theorem pssd_cons {st : Stmt} {rest : List Stmt} {f r : Ev → M Fl} (h : PSD X g E st f) (hr : PSsD X g E rest r) : PSsD X g E (st :: rest) (fSeq f r) := by
  refine PSs.weak (pss_cons h hr) fun D σ H q => ?_
  obtain ⟨Fb, F0, H0, F, δ, S, s, p⟩ := q
  refine ⟨Fb, F0, H0, F, δ, S, s, ?_⟩
  unfold fSeq bnd at p
  cases z : f δ S with
  | ok fl S' =>
    rw [z] at p
    cases fl with
    | next δ' => exact fun F' H' σ' s' => ⟨Fb, F0, H0, F', δ', S', s', p⟩
    | ret d => exact p
    | brk δ' => exact p
    | cont δ' => exact p
  | exc c fs S' => rw [z] at p; exact p
  | stuck => rw [z] at p; exact p
theorem tDB_imp {K : PySem.W.Frag} {f : List (Option D) → M Bool} {σ : L2.St} {H : Hp} {Q Q' : Bool → Hp → Prop} (h : tDB K g E f σ H Q) (w : ∀ v H', Q v H' → Q' v H') : tDB K g E f σ H Q' := by
  obtain ⟨F, ρ, S, st, p⟩ := h
  exact ⟨F, ρ, S, st, p.imp w⟩
theorem psd_if {cs : CS} {t : Expr} {ct : CE} {a b : List Stmt} {fa fb : Ev → M Fl} {pos : Pos} (ht : PDT X g E t (ev cs ct)) (ha : PSsD X g E a fa) (hb : PSsD X g E b fb) :
    PSD X g E (.If t a b pos) (fun δ => bnd (evTS cs ct δ) fun c => if c = true then fa δ else fb δ) := by
  refine PS.weak (ps_if ht ha hb) fun D σ H q => ?_
  obtain ⟨Fb, F0, H0, F, δ, S, s, p⟩ := q
  refine tDB_imp (p.test s) fun c H' h => ?_
  obtain ⟨F', S', s', p'⟩ := h
  cases c with
  | true => exact ⟨Fb, F0, H0, F', δ, S', s', p'⟩
  | false => exact ⟨Fb, F0, H0, F', δ, S', s', p'⟩
theorem tD_imp {K : PySem.W.Frag} {f : List (Option D) → M D} {σ : L2.St} {H : Hp} {Q Q' : VK} (h : tD K g E f σ H Q) (w : ∀ v H', Q v H' → Q' v H') : tD K g E f σ H Q' := by
  obtain ⟨F, ρ, S, st, p⟩ := h
  exact ⟨F, ρ, S, st, p.imp w⟩
theorem psd_ret {cs : CS} {e : Expr} {c : CE} {pos : Pos} (h : PD X g E e (ev cs c)) : PSD X g E (.Return (some e) pos) (fun δ => bnd (evS cs c δ) fun p => ret (.ret p.1)) := by
  refine PS.weak (ps_ret h) fun D σ H q => ?_
  obtain ⟨Fb, F0, H0, F, δ, S, s, p⟩ := q
  refine tD_imp (p.expr s) fun v H' h => ?_
  obtain ⟨d, δ', F', S', s', r, p'⟩ := h
  exact p' F' H' v s'.fw r
theorem psd_retN {pos : Pos} : PSD X g E (.Return none pos) (fun _ => ret (.ret .non)) := by
  refine PS.weak ps_retN fun D σ H q => ?_
  obtain ⟨Fb, F0, H0, F, δ, S, s, p⟩ := q
  exact p F H .non s.fw (by simp only [Rep])
theorem psd_pass {pos : Pos} : PSD X g E (.Pass pos) (fun δ => ret (.next δ)) := by
  refine PS.weak ps_pass fun D σ H q => ?_
  obtain ⟨Fb, F0, H0, F, δ, S, s, p⟩ := q
  exact p F H σ s
theorem psd_cont {pos : Pos} : PSD X g E (.Continue pos) (fun δ => ret (.cont δ)) := by
  refine PS.weak ps_continue fun D σ H q => ?_
  obtain ⟨Fb, F0, H0, F, δ, S, s, p⟩ := q
  exact p F H σ s
theorem psd_brk {pos : Pos} : PSD X g E (.Break pos) (fun δ => ret (.brk δ)) := by
  refine PS.weak ps_break fun D σ H q => ?_
  obtain ⟨Fb, F0, H0, F, δ, S, s, p⟩ := q
  exact p F H σ s
/-! ### stores -/
theorem psd_asg {cs : CS} {tg e : Expr} {t : CT} {c : CE} {pos : Pos} (h : PD X g E e (ev cs c)) (hg : PG X tg (tG X.K g t)) (hs : swapsWithSole [tg] e pos.line X.env = pure false) (hw : swappedStores [tg] e X.env = pure none) (h1 : (assignEach [tg] X.env).map (·.2) = [assign tg X.env]) :
    PSD X g E (.Assign [tg] e pos) (fun δ => bnd (evS cs c δ) fun p => ofO ((bindS t p.1 p.2).map .next)) := by
  refine PS.weak (ps_asg h hg hs hw h1) fun D σ H q => ?_
  obtain ⟨Fb, F0, H0, F, δ, S, s, p⟩ := q
  refine tD_imp (p.expr s) fun v H' h => ?_
  obtain ⟨d, δ', F', S', s', r, p'⟩ := h
  obtain ⟨fl, e1, p'⟩ := p'.ofO
  obtain ⟨δ'', e2, rfl⟩ := mapO' e1
  exact tgt_read s' r e2 fun σ' s'' => p' F' H' σ' s''
/-- a store to a name, whatever its rule -/
theorem psd_set {cs : CS} {st : Stmt} {i : Nat} {c : CE} (h : PS X st (tAsg (tD X.K g E (ev cs c)) (gName i))) :
    PSD X g E st (fun δ => bnd (evS cs c δ) fun p => ofO ((bindS (.v i) p.1 p.2).map .next)) := by
  refine PS.weak h fun D σ H q => ?_
  obtain ⟨Fb, F0, H0, F, δ, S, s, p⟩ := q
  refine tD_imp (p.expr s) fun v H' h => ?_
  obtain ⟨d, δ', F', S', s', r, p'⟩ := h
  obtain ⟨fl, e1, p'⟩ := p'.ofO
  obtain ⟨δ'', e2, rfl⟩ := mapO' e1
  simp only [bindS] at e2
  obtain ⟨hi, rfl⟩ := ofIf e2
  exact p' F' H' _ (s'.set r hi)
theorem frz_nil {l : List Nat} {δ : Ev} {i : Nat} {xs : List D} (h : (frz l δ)[i]? = some (some (.own xs))) : δ[i]? = some (some (.own xs)) := (frz_own h).1
/-- an own list, made anew -/
theorem psd_own {cs : CS} {st : Stmt} {i : Nat} {c : CE} (h : PS X st (tAsg (tO X.K g E (ev cs c)) (gName i))) :
    PSD X g E st (fun δ => bnd (evS cs c δ) fun p => ofO ((lstOf p.1).bind fun xs => if i < p.2.length then some (.next (p.2.set i (some (.own xs)))) else none)) := by
  refine PS.weak h fun D σ H q => ?_
  obtain ⟨Fb, F0, H0, F, δ, S, s, p⟩ := q
  refine ⟨_, _, S, s.stt (men c), ?_⟩
  unfold evS at p
  simp only [bnd_assoc] at p
  unfold bnd at p
  cases z : ev cs c (vw (men c) δ) S with
  | ok d S' =>
    rw [z] at p
    have p : PostS X.K g E Fb F0 H0 (ofO ((lstOf d).bind fun xs => if i < (if d.flat = true then δ else frz (men c) δ).length then some (.next ((if d.flat = true then δ else frz (men c) δ).set i (some (.own xs)))) else none) S') D := p
    obtain ⟨fl, e1, p'⟩ := p.ofO
    obtain ⟨xs, e2, e3⟩ := bindO e1
    cases d <;> simp only [lstOf] at e2 <;> (try (cases e2; done))
    cases e2
    have hfl : (Pur.D.lst xs).flat = false := rfl
    rw [hfl] at e3
    simp only [Bool.false_eq_true, if_false] at e3
    obtain ⟨hi, rfl⟩ := ofIf e3
    refine ⟨xs, rfl, fun F' H' p0 vs f h1 h2 h3 r => ?_⟩
    have s' := s.after (men c) f
    have h0 : NT H0 p0 := h3.back s.fw
    refine p' F' H' _ (s'.setO hi h1 h2 h0 r fun j ys hj e4 e5 => ?_)
    obtain ⟨b, ws, e6, e7, _⟩ := s.own j ys (frz_nil e4)
    rw [e5] at e6; cases e6
    exact absurd rfl (h3.ne e7 (fun _ z => nomatch z))
  | exc c' fs S' =>
    rw [z] at p
    intro F' H' dx fv f e1 e2
    exact p F' H' dx fv ((s.fwd0 (men c)).trans f) e1 e2
  | stuck => rw [z] at p; exact p
/-! ### lists changed in place -/
theorem ownAt_of {δ : Ev} {i : Nat} {xs : List D} (h : ownAt δ i = some xs) : δ[i]? = some (some (.own xs)) := by
  unfold ownAt at h
  split at h
  · cases h; assumption
  · cases h
theorem PostS.some {α : Type} {K : PySem.W.Frag} {Fb F0 H0 : Hp} {o : Option α} {k : α → M Fl} {S : Pn} {En : Ends} (h : PostS K g E Fb F0 H0 (bnd (Pur.ofO o) k S) En) : ∃ a, o = .some a ∧ PostS K g E Fb F0 H0 (k a S) En := by
  cases o with
  | none => exact h.elim
  | some a => exact ⟨a, rfl, h⟩
theorem evd_own {l : List Nat} {d : D} {δ : Ev} {i : Nat} {xs : List D} (h : (if d.flat = true then δ else frz l δ)[i]? = some (some (.own xs))) : δ[i]? = some (some (.own xs)) := by
  split at h
  · exact h
  · exact (frz_own h).1
/-- behind evS, with the value's own place told -/
theorem PostS.exprO {K : PySem.W.Frag} {Fb F0 H0 F H : Hp} {σ : L2.St} {δ : Ev} {S : Pn} {En : Ends} {e : CE} {cs : CS} {k : D × Ev → M Fl} (s : SS K g Fb F0 H0 F H σ δ S) (h : PostS K g E Fb F0 H0 (bnd (evS cs e δ) k S) En) :
    tD K g E (ev cs e) σ H fun v H' => ∃ d δ' F' S', SS K g Fb F0 H0 F' H' σ δ' S' ∧ Rep K g F' d v ∧ (∀ (i : Nat) (xs : List D), δ'[i]? = Option.some (Option.some (Sl.own xs)) → δ[i]? = Option.some (Option.some (Sl.own xs))) ∧ PostS K g E Fb F0 H0 (k (d, δ') S') En := by
  refine ⟨_, _, S, s.stt (men e), ?_⟩
  unfold evS at h
  rw [bnd_assoc] at h
  unfold bnd at h
  cases z : Pur.ev cs e (vw (men e) δ) S with
  | ok d S' =>
    rw [z] at h
    intro F' H' v f r
    obtain ⟨F'', s', r'⟩ := s.evd (men e) f r
    exact ⟨d, _, F'', S', s', r', fun i xs hi => evd_own hi, h⟩
  | exc c fs S' =>
    rw [z] at h
    intro F' H' dx fv f e1 e2
    exact h F' H' dx fv ((s.fwd0 (men e)).trans f) e1 e2
  | stuck => rw [z] at h; exact h
theorem look_own {K : PySem.W.Frag} {Fb F0 H0 F H F' H' : Hp} {σ : L2.St} {δ δ' : Ev} {S S' : Pn} {i : Nat} {xs : List D} {a : Addr} (s' : SS K g Fb F0 H0 F' H' σ δ' S') (ha : σ[i]? = some (some (.ref a))) (h : δ'[i]? = some (some (.own xs))) :
    ∃ vs, H' a = some (.lst vs) ∧ Reps K g F' xs vs := by
  obtain ⟨b, vs, hv, hH, _, _, r⟩ := s'.own i xs h
  rw [ha] at hv; cases hv
  exact ⟨vs, hH, r⟩
theorem few1 {e : Expr} {cpos : Pos} {env : Env} (hs : starEach [e] env = [(false, eval e env)]) : ((backTo cpos (starEach [e] env)).all (fun x => !x.1) && (backToKw cpos (keywordEach [] env)).all (fun x => x.1.isSome)
    && decide (([e] : List Expr).length + ([] : List Keyword).length + (if ([] : List Keyword).isEmpty then 0 else 1) < 30)) = true := by
  rw [hs]; rfl
theorem psd_app {cs : CS} {x : Str} {i : Nat} {p1 apos cpos pos : Pos} {e : Expr} {c : CE} (hN : X.N[i]? = some x) (hv : Vis X.env.scope x) (o : OkName x) (he : PD X g E e (ev cs c)) (hs : starEach [e] X.env = [(false, eval e X.env)]) (hl : apos.endLine = cpos.line) :
    PSD X g E (.Expr (.Call (.Attribute (.Name x p1) "append" apos) [e] [] cpos) pos) (fun δ => bnd (ofO (ownAt δ i)) fun _ => bnd (evS cs c δ) fun p => ofO ((ownAt p.2 i).bind fun xs => if xs.length < 16777216 then some (.next (p.2.set i (some (.own (xs ++ [p.1]))))) else none)) := by
  refine PS.weak (ps_expr (pe_bm PySem.F.plainAttrs_list PySem.F.slot_list_append PySem.F.type_list_append mt_append (pe_var hN hv o.d o.c) (pa_cons he pa_nil hs) rfl (few1 hs) (by simp [hl]) hs rfl) rfl) fun D σ H q => ?_
  obtain ⟨Fb, F0, H0, F, δ, S, s, p⟩ := q
  obtain ⟨xs0, e0, p⟩ := p.some
  have e0 := ownAt_of e0
  obtain ⟨a, vs0, ha, hH, hF, h0, r0⟩ := s.own i xs0 e0
  refine ⟨.ref a, ha, Or.inl ⟨rfl, _, SqL.of hH⟩, ?_⟩
  refine tD_imp (p.exprO s) fun v H' h => ?_
  obtain ⟨d, δ', F', S', s', r, back, p'⟩ := h
  obtain ⟨fl, e1, p'⟩ := p'.ofO
  obtain ⟨xs, e2, e3⟩ := bindO e1
  obtain ⟨hz, rfl⟩ := ofIf e3
  have e2 := ownAt_of e2
  obtain ⟨vs, hH', rs⟩ := look_own (H := H) (δ := δ) (F := F) (S := S) s' ha e2
  have hlen := rs.len
  refine ⟨a, vs, v, rfl, rfl, hH', by rw [sizeLine_eq]; omega, ?_⟩
  exact p' F' _ σ (s'.upd e2 ha (rs.app (Reps.one r)))
theorem psd_ext {cs : CS} {x : Str} {i : Nat} {p1 apos cpos pos : Pos} {e : Expr} {c : CE} (hN : X.N[i]? = some x) (hv : Vis X.env.scope x) (o : OkName x) (he : PD X g E e (ev cs c)) (hs : starEach [e] X.env = [(false, eval e X.env)]) (hl : apos.endLine = cpos.line) :
    PSD X g E (.Expr (.Call (.Attribute (.Name x p1) "extend" apos) [e] [] cpos) pos) (fun δ => bnd (ofO (ownAt δ i)) fun _ => bnd (evS cs c δ) fun p => ofO ((ownAt p.2 i).bind fun xs => (lstOf p.1).bind fun ys => if xs.length + ys.length ≤ 16777216 then some (.next (p.2.set i (some (.own (xs ++ ys))))) else none)) := by
  refine PS.weak (ps_expr (pe_bm PySem.F.plainAttrs_list PySem.F.slot_list_extend PySem.F.type_list_extend mt_extend (pe_var hN hv o.d o.c) (pa_cons he pa_nil hs) rfl (few1 hs) (by simp [hl]) hs rfl) rfl) fun D σ H q => ?_
  obtain ⟨Fb, F0, H0, F, δ, S, s, p⟩ := q
  obtain ⟨xs0, e0, p⟩ := p.some
  have e0 := ownAt_of e0
  obtain ⟨a, vs0, ha, hH, hF, h0, r0⟩ := s.own i xs0 e0
  refine ⟨.ref a, ha, Or.inl ⟨rfl, _, SqL.of hH⟩, ?_⟩
  refine tD_imp (p.exprO s) fun v H' h => ?_
  obtain ⟨d, δ', F', S', s', r, back, p'⟩ := h
  obtain ⟨fl, e1, p'⟩ := p'.ofO
  obtain ⟨xs, e2, e3⟩ := bindO e1
  obtain ⟨ys, e4, e3⟩ := bindO e3
  obtain ⟨hz, rfl⟩ := ofIf e3
  have e2 := ownAt_of e2
  obtain ⟨vs, hH', rs⟩ := look_own (H := H) (δ := δ) (F := F) (S := S) s' ha e2
  have hlen := rs.len
  cases d <;> simp only [lstOf] at e4 <;> (try (cases e4; done))
  cases e4
  simp only [Rep] at r
  obtain ⟨b, ws, rfl, hb, rb⟩ := r
  have hlen2 := rb.len
  refine ⟨a, b, vs, ws, rfl, rfl, hH', s'.fw.fh _ _ hb, by rw [sizeLine_eq]; omega, ?_⟩
  exact p' F' _ σ (s'.upd e2 ha (rs.app rb))
theorem psd_appIf {cs : CS} {t : Expr} {ct : CE} {x y : Str} {i j : Nat} {p1 p2 p3 apos cpos pos : Pos} {e : Expr} {c : CE} (ht : PDT X g E t (ev cs ct)) (hN : X.N[i]? = some x) (hv : Vis X.env.scope x) (o : OkName x) (hN2 : X.N[j]? = some y) (hv2 : Vis X.env.scope y) (o2 : OkName y)
    (he : PD X g E e (ev cs c)) (hs : starEach [e] X.env = [(false, eval e X.env)]) (hl : apos.endLine = cpos.line) :
    PSD X g E (.Expr (.Call (.Attribute (.IfExp t (.Name x p1) (.Name y p2) p3) "append" apos) [e] [] cpos) pos) (fun δ => bnd (evTS cs ct δ) fun b => bnd (ofO (ownAt δ (if b = true then i else j))) fun _ => bnd (evS cs c δ) fun p =>
      ofO ((ownAt p.2 (if b = true then i else j)).bind fun xs => if xs.length < 16777216 then some (.next (p.2.set (if b = true then i else j) (some (.own (xs ++ [p.1]))))) else none)) := by
  refine PS.weak (ps_expr (pe_bm PySem.F.plainAttrs_list PySem.F.slot_list_append PySem.F.type_list_append mt_append (pe_ifExp ht (pe_var hN hv o.d o.c) (pe_var hN2 hv2 o2.d o2.c)) (pa_cons he pa_nil hs) rfl (few1 hs) (by simp [hl]) hs rfl) rfl) fun D σ H q => ?_
  obtain ⟨Fb, F0, H0, F, δ, S, s, p⟩ := q
  refine tDB_imp (p.test s) fun b H1 h1 => ?_
  obtain ⟨F1, S1, s, p⟩ := h1
  have key : ∀ m, PostS X.K g E Fb F0 H0 (bnd (ofO (ownAt δ m)) (fun _ => bnd (evS cs c δ) fun p =>
      ofO ((ownAt p.2 m).bind fun xs => if xs.length < 16777216 then some (.next (p.2.set m (some (.own (xs ++ [p.1]))))) else none)) S1) D → tVar m σ H1 fun x H1 => tyV X.K "list" x H1 ∧ tCons (tD X.K g E (ev cs c)) tNil σ H1 fun xs H2 => rAppend x xs H2 fun _ H3 => D.nx σ H3 := by
    intro m p
    obtain ⟨xs0, e0, p⟩ := p.some
    have e0 := ownAt_of e0
    obtain ⟨a, vs0, ha, hH, hF, h0, r0⟩ := s.own m xs0 e0
    refine ⟨.ref a, ha, Or.inl ⟨rfl, _, SqL.of hH⟩, ?_⟩
    refine tD_imp (p.exprO s) fun v H' h => ?_
    obtain ⟨d, δ', F', S', s', r, back, p'⟩ := h
    obtain ⟨fl, e1, p'⟩ := p'.ofO
    obtain ⟨xs, e2, e3⟩ := bindO e1
    obtain ⟨hz, rfl⟩ := ofIf e3
    have e2 := ownAt_of e2
    obtain ⟨vs, hH', rs⟩ := look_own (H := H) (δ := δ) (F := F) (S := S) s' ha e2
    have hlen := rs.len
    refine ⟨a, vs, v, rfl, rfl, hH', by rw [sizeLine_eq]; omega, ?_⟩
    exact p' F' _ σ (s'.upd e2 ha (rs.app (Reps.one r)))
  cases b with
  | true => exact key i p
  | false => exact key j p
theorem Reps.set {K : PySem.W.Frag} {F : Hp} {d : D} {v : V} (h : Rep K g F d v) : ∀ {ds : List D} {vs : List V} (n : Nat), Reps K g F ds vs → Reps K g F (ds.set n d) (vs.set n v)
  | [], vs, n, r => by simp only [Reps] at r; rw [r]; simp; exact Reps.nil
  | e :: ds, vs, 0, r => by
    simp only [Reps] at r
    obtain ⟨w, t, rfl, q, s⟩ := r
    simp only [List.set_cons_zero]
    exact Reps.cons h s
  | e :: ds, vs, n + 1, r => by
    simp only [Reps] at r
    obtain ⟨w, t, rfl, q, s⟩ := r
    simp only [List.set_cons_succ]
    exact Reps.cons q (Reps.set h n s)
theorem isPen_of {δ : Ev} {i : Nat} (h : isPen δ i = true) : δ[i]? = some (some (.val .pen)) := by
  unfold isPen at h
  split at h
  · assumption
  · cases h
theorem SS.pen {K : PySem.W.Frag} {Fb F0 H0 F H : Hp} {σ : L2.St} {δ : Ev} {S S' : Pn} (s : SS K g Fb F0 H0 F H σ δ S) (hc : S'.cells = S.cells) : SS K g Fb F0 H0 F (L2.upd H g.pa (.lst [.ref g.ca, .int S'.at_, .int S'.rest])) σ δ S' :=
  ⟨s.fb, s.fw.pen hc, s.pa, s.len, s.val, fun i xs h => by
    obtain ⟨a, vs, h1, h2, h3, h4, h5⟩ := s.own i xs h
    have : a ≠ g.pa := s.ne h4
    exact ⟨a, vs, h1, by rw [upd_ne this]; exact h2, h3, h4, h5⟩, s.dis⟩
theorem penIdx {K : PySem.W.Frag} {Fb F0 H0 : Hp} {n z : Int} {δ : Ev} {S : Pn} {En : Ends} (p : PostS K g E Fb F0 H0 (bnd (penSet (.int n) (.int z)) (fun _ => ret (.next δ)) S) En) : n = 1 ∨ n = 2 := by
  by_cases h1 : n = 1
  · exact .inl h1
  · by_cases h2 : n = 2
    · exact .inr h2
    · exfalso
      unfold bnd penSet at p
      simp only [if_neg h1, if_neg h2] at p
      exact p
theorem psd_setAt {cs : CS} {x : Str} {j : Nat} {p1 p2 pos : Pos} {e i : Expr} {c ci : CE} (hN : X.N[j]? = some x) (hv : Vis X.env.scope x) (o : OkName x) (he : PD X g E e (ev cs c)) (hi : PD X g E i (ev cs ci)) (hs : swapsWithSole [.Subscript (.Name x p1) i p2] e pos.line X.env = pure false)
    (hw : swappedStores [.Subscript (.Name x p1) i p2] e X.env = pure none) (hsub : ∀ v, assign (.Subscript (.Name x p1) i p2) X.env v = (do
      let ov ← holding [v] (eval (.Name x p1) X.env)
      let
          iv ← holding [v, ov] (eval i X.env)
      standAt p2
      holding
          [v, ov, iv] (setItem ov iv v)
      release [v, ov, iv] [])) :
    PSD X g E (.Assign [.Subscript (.Name x p1) i p2] e pos) (fun δ => bnd (evS cs c δ) fun p => if isPen p.2 j = true then bnd (evS cs ci p.2) fun q => bnd (penSet q.1 p.1) fun _ => ret (.next q.2) else bnd (ofO (ownAt p.2 j)) fun _ => bnd (evS cs ci p.2) fun q => ofO ((ownAt q.2 j).bind fun xs => (setAt xs q.1 p.1).map fun ys => .next (q.2.set j (some (.own ys))))) := by
  refine PS.weak (ps_asg he (pg_sub (pe_var hN hv o.d o.c) hi set_list hsub) hs hw rfl) fun D σ H q => ?_
  obtain ⟨Fb, F0, H0, F, δ, S, s, p⟩ := q
  refine tD_imp (p.exprO s) fun v H' h => ?_
  obtain ⟨d, δ', F', S', s', r, back, p'⟩ := h
  by_cases hpen : isPen δ' j = true
  · have p' : PostS X.K g E Fb F0 H0 ((if isPen δ' j = true then bnd (evS cs ci δ') fun q => bnd (penSet q.1 d) fun _ => ret (.next q.2) else stuck) S') D := by
      rw [if_pos hpen]; rw [if_pos hpen] at p'; exact p'
    rw [if_pos hpen] at p'
    obtain ⟨v0, hv0, r0⟩ := s'.val j .pen (isPen_of hpen)
    simp only [Rep] at r0
    subst r0
    refine ⟨.ref g.pa, hv0, ?_⟩
    refine tD_imp (p'.expr s') fun w H2 h2 => ?_
    obtain ⟨k, δ2, F2, S2, s2, rk, p2⟩ := h2
    obtain ⟨n, z, rfl, rfl, hn⟩ : ∃ n z, k = .int n ∧ d = .int z ∧ (n = 1 ∨ n = 2) := by
      clear p'
      cases k with
      | int n => cases d with
        | int z => exact ⟨n, z, rfl, rfl, penIdx p2⟩
        | _ => exact absurd p2 id
      | _ => exact absurd p2 id
    simp only [Rep] at rk r
    subst rk r
    rcases hn with rfl | rfl
    · refine ⟨g.pa, _, 1, 1, rfl, rfl, s2.fw.pn.at_, rfl, ?_⟩
      have p3 : PostS X.K g E Fb F0 H0 (.ok (.next δ2) { S2 with at_ := z }) D := p2
      exact p3 F2 _ σ (SS.pen (S' := { S2 with at_ := z }) s2 rfl)
    · refine ⟨g.pa, _, 2, 2, rfl, rfl, s2.fw.pn.at_, rfl, ?_⟩
      have p3 : PostS X.K g E Fb F0 H0 (.ok (.next δ2) { S2 with rest := z }) D := p2
      exact p3 F2 _ σ (SS.pen (S' := { S2 with rest := z }) s2 rfl)
  rw [if_neg hpen] at p'
  obtain ⟨xs0, e0, p'⟩ := p'.some
  have e0 := ownAt_of e0
  obtain ⟨a, vs0, ha, hH, hF, h0, r0⟩ := s'.own j xs0 e0
  refine ⟨.ref a, ha, ?_⟩
  -- the value's representation is kept through the index
  refine ⟨_, _, S', s'.stt (men ci), ?_⟩
  unfold evS at p'
  rw [bnd_assoc] at p'
  unfold bnd at p'
  cases z : Pur.ev cs ci (vw (men ci) δ') S' with
  | exc c' fs S'' =>
    rw [z] at p'
    intro F2 H2 dx fv f e1 e2
    exact p' F2 H2 dx fv ((s'.fwd0 (men ci)).trans f) e1 e2
  | stuck => rw [z] at p'; exact p'
  | ok k S'' =>
    rw [z] at p'
    intro F2 H2 w f rk
    have p' : PostS X.K g E Fb F0 H0 (Pur.ofO ((ownAt (if k.flat = true then δ' else frz (men ci) δ') j).bind fun xs => (setAt xs k d).map fun ys => Fl.next ((if k.flat = true then δ' else frz (men ci) δ').set j (some (.own ys)))) S'') D := p'
    obtain ⟨fl, e1, p'⟩ := p'.ofO
    obtain ⟨xs, e2, e3⟩ := bindO e1
    obtain ⟨ys, e4, rfl⟩ := mapO' e3
    obtain ⟨n, m, rfl, e5, rfl⟩ : ∃ n m, k = .int n ∧ L2.ixN xs.length n = Option.some m ∧ ys = xs.set m d := by
      cases k <;> simp only [setAt] at e4 <;> (try (cases e4; done))
      obtain ⟨m, e5, rfl⟩ := mapO' e4
      exact ⟨_, m, rfl, e5, rfl⟩
    have hfl : (Pur.D.int n).flat = true := rfl
    rw [hfl] at p' e2
    simp only [if_true] at p' e2
    have e2 := ownAt_of e2
    have s2 := s'.back (men ci) f
    have rk : Rep X.K g F2 (.int n) w := rk
    simp only [Rep] at rk
    subst rk
    obtain ⟨vs, hH', rs⟩ := look_own (H := H) (δ := δ) (F := F) (S := S) s2 ha e2
    refine ⟨a, vs, n, m, rfl, rfl, hH', by rw [rs.len]; exact e5, ?_⟩
    exact p' F' _ σ (s2.upd e2 ha (Reps.set r m rs))
theorem psd_aug {cs : CS} {x : Str} {i : Nat} {p1 pos : Pos} {op : Operator} {e : Expr} {c : CE} (hN : X.N.Nodup) (hi : X.N[i]? = some x) (hx : Loc X.env.scope x) (hf : X.fn x = true ∨ X.env.scope.names.lookup x = some .local) (he : PD X g E e (ev cs c)) (hop : op = .Add ∨ op = .Sub) :
    PSD X g E (.AugAssign (.Name x p1) op e pos) (fun δ => bnd (ofO ((vw [] δ)[i]?).join) fun x => bnd (evS cs c δ) fun p => ofO ((augD op x p.1).bind fun z => if i < p.2.length then some (.next (p.2.set i (some (.val z)))) else none)) := by
  have key : ∃ f : Int → Int → Int, PIp X op (ipI f) ∧ ∀ a b z, augD op a b = some z → ∃ m n, a = .int m ∧ b = .int n ∧ z = .int (f m n) := by
    rcases hop with rfl | rfl
    · refine ⟨fun i j => i + j, ip_add, fun a b z h => ?_⟩
      cases a <;> cases b <;> simp only [augD] at h <;> (try (cases h; done))
      cases h; exact ⟨_, _, rfl, rfl, rfl⟩
    · refine ⟨fun i j => i - j, ip_sub, fun a b z h => ?_⟩
      cases a <;> cases b <;> simp only [augD] at h <;> (try (cases h; done))
      cases h; exact ⟨_, _, rfl, rfl, rfl⟩
  obtain ⟨f, hp, hz⟩ := key
  refine PS.weak (ps_aug hN hi hx he hp hf) fun D σ H q => ?_
  obtain ⟨Fb, F0, H0, F, δ, S, s, p⟩ := q
  obtain ⟨d0, e0, p⟩ := p.some
  have e0' : (vw [] δ)[i]? = some (some d0) := by
    cases z : (vw [] δ)[i]? with
    | none => rw [z] at e0; cases e0
    | some y =>
      rw [z] at e0
      cases y with
      | none => cases e0
      | some w => cases e0; rfl
  have e1 : δ[i]? = some (some (.val d0)) := by
    rcases vw_some e0' with h | ⟨_, _, hh, _⟩
    · exact h
    · cases hh
  obtain ⟨v0, hv0, r0⟩ := s.val i d0 e1
  refine ⟨v0, hv0, ?_⟩
  refine tD_imp (p.expr s) fun v H' h => ?_
  obtain ⟨d, δ', F', S', s', r, p'⟩ := h
  obtain ⟨fl, e2, p'⟩ := p'.ofO
  obtain ⟨z, e3, e4⟩ := bindO e2
  obtain ⟨hi', rfl⟩ := ofIf e4
  obtain ⟨m, n, rfl, rfl, rfl⟩ := hz _ _ _ e3
  simp only [Rep] at r0 r
  subst r0 r
  exact ⟨m, n, rfl, rfl, p' F' H' _ (s'.set rep_int hi')⟩
theorem psd_drop {cs : CS} {e : Expr} {c : CE} {pos : Pos} (h : PD X g E e (ev cs c)) (hs : swapsWith e none pos.line X.env = pure false) : PSD X g E (.Expr e pos) (fun δ => bnd (evS cs c δ) fun p => ret (.next p.2)) := by
  refine PS.weak (ps_expr h hs) fun D σ H q => ?_
  obtain ⟨Fb, F0, H0, F, δ, S, s, p⟩ := q
  refine tD_imp (p.expr s) fun v H' h => ?_
  obtain ⟨d, δ', F', S', s', r, p'⟩ := h
  exact p' F' H' σ s'
end
end Pur

/-! Pur13: loops, two stores at once. -/
namespace Pur
open
    PySem PySem.Spec PyProof.Rows L2
section
variable {X : Cx} {g : G} {E : XK}
theorem SS.rebase {K : PySem.W.Frag} {Fb F0 H0 F H F1 : Hp} {σ : L2.St} {δ : Ev} {S : Pn} (s : SS K g Fb F0 H0 F H σ δ S) (h : Same F1 F) : SS K g F1 F0 H0 F H σ δ S :=
  ⟨h, s.fw, s.pa, s.len, s.val, s.own, s.dis⟩
/-- what is wanted behind a statement, from any base at or below -/
theorem PostS.rebase {K : PySem.W.Frag} {Fb F0 H0 F1 : Hp} {r : Rs Fl} {D : Ends} (h : PostS K g E Fb F0 H0 r D) (w : Same Fb F1) : PostS K g E F1 F0 H0 r D := by
  cases r with
  | ok fl S =>
    cases fl with
    | next δ => exact fun F H σ s => h F H σ (s.rebase (w.trans s.fb))
    | brk δ => exact fun F H σ s => h F H σ (s.rebase (w.trans s.fb))
    | cont δ => exact fun F H σ s => h F H σ (s.rebase (w.trans s.fb))
    | ret d => exact h
  | exc c fs S => exact h
  | stuck => exact h
theorem for_core {Fb F0 H0 F1 H1 : Hp} {σ : L2.St} {δ : Ev} {S1 : Pn} {J : It} {ds : List Pur.D} {t : CT} {fb : Ev → M Fl} {D : Ends} {tb : TS} (htb : ∀ En σ H, tSt X.K g E fb En σ H → tb En σ H) (s : SS X.K g Fb F0 H0 F1 H1 σ δ S1) (J1 : ItOk X.K g F1 ds J)
    (p : PostS X.K g E Fb F0 H0 (forGo (fun d δ' => bnd (Pur.ofO (bindS t d δ')) fun δ'' => fb δ'') ds δ S1) D) :
    ∃ W : Nat → Nat → L2.St → Hp → Prop, (∃ m, W 0 m σ H1) ∧ ∀ i m σ H, W i m σ H → (J.stop i H ∧ D.nx σ H) ∨ (J.go i H ∧ ∃ N : L2.St → Hp → Prop, (∀ σ' H', N σ' H' → ∃ m', m' < m ∧ W (i + 1) m' σ' H') ∧
      ∀ x H', J.yld i H x H' → tG X.K g t x σ H' fun σ2 H2 => tb { D with nx := N, ct := N, bk := D.nx } σ2 H2) := by
  refine ⟨fun i m σ H => m = ds.length - i ∧ i ≤ ds.length ∧ ∃ F δ S, SS X.K g F1 F0 H0 F H σ δ S ∧ PostS X.K g E F1 F0 H0 (forGo (fun d δ' => bnd (Pur.ofO (bindS t d δ')) fun δ'' => fb δ'') (ds.drop i) δ S) D,
    ⟨_, rfl, Nat.zero_le _, F1, δ, S1, s.rebase (Same.refl _), p.rebase s.fb⟩, ?_⟩
  rintro i m σ H ⟨rfl, hi, F, δ, S, s, p⟩
  by_cases hlt : i < ds.length
  · right
    have hd : ds[i]? = some ds[i] := List.getElem?_eq_getElem hlt
    obtain ⟨go, yl⟩ := J1.go i F H S ds[i] hd s.fb s.fw.fh s.fw.pn
    refine ⟨go, fun σ' H' => ∃ F δ S, SS X.K g F1 F0 H0 F H' σ' δ S ∧ PostS X.K g E F1 F0 H0 (forGo (fun d δ' => bnd (Pur.ofO (bindS t d δ')) fun δ'' => fb δ'') (ds.drop (i + 1)) δ S) D, fun σ' H' q => ⟨ds.length - (i + 1), by omega, rfl, hlt, q⟩, fun x H' y => ?_⟩
    obtain ⟨F3, f3, rx⟩ := yl x H' y
    rw [List.drop_eq_getElem_cons hlt] at p
    unfold forGo at p
    rw [bnd_assoc] at p
    obtain ⟨δ2, e2, p⟩ := p.some
    -- the item's making keeps the state
    have s3 : SS X.K g F1 F0 H0 F3 H' σ δ S := by
      refine ⟨s.fb.trans f3.ff, s.fw.trans f3, s.pa, s.len, fun j d hj => ?_, fun j xs hj => ?_, s.dis⟩
      · obtain ⟨v, hv, r⟩ := s.val j d hj
        exact ⟨v, hv, Rep.mono f3.ff d v r⟩
      · obtain ⟨a, vs, hv, hH, hF, h0, r⟩ := s.own j xs hj
        exact ⟨a, vs, hv, f3.hh a _ hH (s.ne h0) (fun _ z => nomatch z), f3.hf a _ (hH) (fun _ z => nomatch z) (fun _ z => nomatch z) hF, h0, Reps.mono f3.ff xs vs r⟩
    refine tgt_read s3 rx e2 fun σ2 s4 => htb _ _ _ ⟨F1, F0, H0, F3, δ2, S, s4, ?_⟩
    unfold bnd at p
    cases z : fb δ2 S with
    | exc c fs S' => rw [z] at p; exact p
    | stuck => rw [z] at p; exact p
    | ok fl S' =>
      rw [z] at p
      cases fl with
      | next δ' => exact fun F' H' σ' s' => ⟨F', δ', S', s', p⟩
      | cont δ' => exact fun F' H' σ' s' => ⟨F', δ', S', s', p⟩
      | brk δ' => exact p
      | ret d => exact p
  · left
    have e : i = ds.length := by omega
    subst e
    rw [List.drop_length] at p
    exact ⟨J1.stop H (s.fb.trans s.fw.fh), p F H σ s⟩
/-- within a statement: what is walked -/
theorem PostS.iter {Fb F0 H0 F H : Hp} {σ : L2.St} {δ : Ev} {S : Pn} {En : Ends} {it : CE} {cs : CS} {k : List Pur.D × Ev → M Fl} (hr : isRng it = false) (s : SS X.K g Fb F0 H0 F H σ δ S) (h : PostS X.K g E Fb F0 H0 (bnd (evIS cs it δ) k S) En) :
    tI X.K g E (evI cs it) σ H fun J H' => ∃ ds δ' F' S', SS X.K g Fb F0 H0 F' H' σ δ' S' ∧ ItOk X.K g F' ds J ∧ PostS X.K g E Fb F0 H0 (k (ds, δ') S') En := by
  refine ⟨_, _, S, s.stt (men it), ?_⟩
  unfold evIS at h
  rw [bnd_assoc] at h
  unfold bnd at h
  cases z : evI cs it (vw (men it) δ) S with
  | ok ds S' =>
    rw [z] at h
    intro F' H' J f r
    rw [hr] at h
    exact ⟨ds, _, F', S', s.after (men it) f, r, h⟩
  | exc c fs S' =>
    rw [z] at h
    intro F' H' dx fv f e1 e2
    exact h F' H' dx fv ((s.fwd0 (men it)).trans f) e1 e2
  | stuck => rw [z] at h; exact h
def fFor (cs : CS) (t : CT) (it : CE) (fb : Ev → M Fl) : Ev → M Fl := fun δ => bnd (evIS cs it δ) fun p => forGo (fun d δ' => bnd (ofO (bindS t d δ')) fun δ'' => fb δ'') p.1 p.2
theorem tI_imp {K : PySem.W.Frag} {f : List (Option Pur.D) → M (List Pur.D)} {σ : L2.St} {H : Hp} {Q Q' : It → Hp → Prop} (h : tI K g E f σ H Q) (w : ∀ v H', Q v H' → Q' v H') : tI K g E f σ H Q' := by
  obtain ⟨F, ρ, S, st, p⟩ := h
  exact ⟨F, ρ, S, st, p.imp w⟩
theorem psd_for {cs : CS} {tg iter : Expr} {t : CT} {it : CE} {body : List Stmt} {fb : Ev → M Fl} {pos : Pos} (hp : PassesOwn (model X.prog X.w) X.A X.env X.xe) (hc : X.calm = true) (hi : PDI X g E tg iter (evI cs it)) (hr : isRng it = false) (hg : PG X tg (tG X.K g t)) (hb : PSsD X g E body fb)
    (hs : ∀ x, foldedSetIterable iter X.env x = pure x) : PSD X g E (.For tg iter body [] pos) (fFor cs t it fb) := by
  refine PS.weak (ps_for hp hc hi hg hb hs) fun D σ H q => ?_
  obtain ⟨Fb, F0, H0, F, δ, S, s, p⟩ := q
  refine tI_imp (PostS.iter hr s p) fun J H' h => ?_
  obtain ⟨ds, δ', F', S', s', J1, p'⟩ := h
  exact for_core (fun _ _ _ h => h) s' J1 p'
/-- over a range of one end -/
theorem psd_forR1 {cs : CS} {tg a : Expr} {t : CT} {ca : CE} {body : List Stmt} {fb : Ev → M Fl} {p0 pos0 pos : Pos} (hp : PassesOwn (model X.prog X.w) X.A X.env X.xe) (hc : X.calm = true) (hgl : Gl X "range") (hm : X.mg "range" = none) (ha : PD X g E a (ev cs ca)) (hst : starEach [a] X.env = [(false, eval a X.env)])
    (hg : PG X tg (tG X.K g t)) (hb : PSsD X g E body fb) : PSD X g E (.For tg (.Call (.Name "range" p0) [a] [] pos0) body [] pos) (fFor cs t (.iRng1 ca) fb) := by
  refine PS.weak (ps_for hp hc (pi_range1 hgl hm (pa_cons ha pa_nil hst) hst) hg hb (fun _ => rfl)) fun D σ H q => ?_
  obtain ⟨Fb, F0, H0, F, δ, S, s, p⟩ := q
  refine ⟨_, _, S, s.stt (men ca), ?_⟩
  unfold fFor evIS at p
  simp only [men, isRng, if_true, evI, bnd_assoc] at p
  unfold bnd at p
  cases z : Pur.ev cs ca (vw (men ca) δ) S with
  | exc c fs S' =>
    rw [z] at p
    intro F' H' dx fv f e1 e2
    exact p F' H' dx fv ((s.fwd0 (men ca)).trans f) e1 e2
  | stuck => rw [z] at p; exact p
  | ok d S' =>
    rw [z] at p
    intro F' H' v f r
    obtain ⟨ds, e, p⟩ := PostS.some p
    obtain ⟨j, rfl, c1, c2, rfl⟩ := rng1_of e
    have r : Rep X.K g F' (.int j) v := r
    simp only [Rep] at r
    subst r
    have c1 := inR_of c1
    refine ⟨j, rfl, c1.1, c1.2, ?_⟩
    have J1 : ItOk X.K g F (rangeD 0 j) (Itr 0 (j - 0).toNat) := itOk_rng (by omega)
    rw [Int.sub_zero] at J1
    exact for_core (fun _ _ _ h => h) (s.back (men ca) f) J1 p
theorem psd_forR2 {cs : CS} {tg a b : Expr} {t : CT} {ca cb : CE} {body : List Stmt} {fb : Ev → M Fl} {p0 pos0 pos : Pos} (hp : PassesOwn (model X.prog X.w) X.A X.env X.xe) (hc : X.calm = true) (hgl : Gl X "range") (hm : X.mg "range" = none) (ha : PD X g E a (ev cs ca)) (hb' : PD X g E b (ev cs cb))
    (hst : starEach [a, b] X.env = [(false, eval a X.env), (false, eval b X.env)]) (hst2 : starEach [b] X.env = [(false, eval b X.env)])
    (hg : PG X tg (tG X.K g t)) (hb : PSsD X g E body fb) : PSD X g E (.For tg (.Call (.Name "range" p0) [a, b] [] pos0) body [] pos) (fFor cs t (.iRng2 ca cb) fb) := by
  refine PS.weak (ps_for hp hc (pi_range2 hgl hm (pa_cons ha (pa_cons hb' pa_nil hst2) (by rw [hst, hst2])) hst hst2) hg hb (fun _ => rfl)) fun D σ H q => ?_
  obtain ⟨Fb, F0, H0, F, δ, S, s, p⟩ := q
  refine ⟨_, _, S, s.stt (men ca ++ men cb), ?_⟩
  unfold fFor evIS at p
  simp only [men, isRng, if_true, evI, bnd_assoc] at p
  unfold bnd at p
  cases z : Pur.ev cs ca (vw (men ca ++ men cb) δ) S with
  | exc c fs S' =>
    rw [z] at p
    intro F' H' dx fv f e1 e2
    exact p F' H' dx fv ((s.fwd0 _).trans f) e1 e2
  | stuck => rw [z] at p; exact p
  | ok d S' =>
    rw [z] at p
    intro F' H' v f r
    have st' := (s.stt (men ca ++ men cb)).fwd f
    refine ⟨F', _, S', st', ?_⟩
    have p : PostS X.K g E Fb F0 H0 (bnd (Pur.ev cs cb (vw (men ca ++ men cb) δ)) (fun y => bnd (ofO (rng2D d y)) fun ds => forGo (fun d δ' => bnd (ofO (bindS t d δ')) fun δ'' => fb δ'') ds δ) S') D := p
    unfold bnd at p
    cases z2 : Pur.ev cs cb (vw (men ca ++ men cb) δ) S' with
    | exc c fs S'' =>
      rw [z2] at p
      intro F'' H'' dx fv f2 e1 e2
      exact p F'' H'' dx fv (((s.fwd0 _).trans f).trans f2) e1 e2
    | stuck => rw [z2] at p; exact p
    | ok d2 S'' =>
      rw [z2] at p
      intro F'' H'' v2 f2 r2
      obtain ⟨ds, e, p⟩ := PostS.some p
      obtain ⟨i, j, rfl, rfl, c1, c2, c3, rfl⟩ := rng2_of e
      have r : Rep X.K g F' (.int i) v := r
      have r2 : Rep X.K g F'' (.int j) v2 := r2
      simp only [Rep] at r r2
      subst r r2
      have c1 := inR_of c1
      have c2 := inR_of c2
      refine ⟨i, j, rfl, ⟨c1.1, c1.2, c2.1, c2.2⟩, ?_⟩
      exact for_core (fun _ _ _ h => h) (s.back _ (f.trans f2)) (itOk_rng (by omega)) p
/-! ### while -/
theorem psd_while {cs : CS} {W : Nat} {c : Expr} {cc : CE} {body : List Stmt} {fb : Ev → M Fl} {pos : Pos} (hp : PassesOwn (model X.prog X.w) X.A X.env X.xe) (hc : PDT X g E c (ev cs cc)) (hb : PSsD X g E body fb) : PSD X g E (.While c body [] pos) (fun δ => whlGo (evTS cs cc) fb W δ) := by
  refine PS.weak (ps_while hp hc hb) fun D σ H q => ?_
  obtain ⟨Fb, F0, H0, F, δ, S, s, p⟩ := q
  refine ⟨fun m σ H => ∃ F δ S, SS X.K g Fb F0 H0 F H σ δ S ∧ PostS X.K g E Fb F0 H0 (whlGo (evTS cs cc) fb m δ S) D, ⟨W, F, δ, S, s, p⟩, ?_⟩
  rintro m σ H ⟨F, δ, S, s, p⟩
  cases m with
  | zero => exact p.elim
  | succ m =>
    unfold whlGo at p
    refine tDB_imp (p.test s) fun b H1 h => ?_
    obtain ⟨F1, S1, s1, p⟩ := h
    cases b with
    | false => exact p F1 H1 σ s1
    | true =>
      have p : PostS X.K g E Fb F0 H0 (bnd (fb δ) (fun fl => match fl with
        | .next δ' => whlGo (evTS cs cc) fb m δ'
        | .cont δ' => whlGo (evTS cs cc) fb m δ'
        | .brk δ' => ret (.next δ')
        | .ret v => ret (.ret v)) S1) D := p
      refine ⟨fun σ' H' => ∃ F δ S, SS X.K g Fb F0 H0 F H' σ' δ S ∧ PostS X.K g E Fb F0 H0 (whlGo (evTS cs cc) fb m δ S) D, fun σ' H' q => ⟨m, Nat.lt_succ_self m, q⟩, Fb, F0, H0, F1, δ, S1, s1, ?_⟩
      unfold bnd at p
      cases z : fb δ S1 with
      | exc c fs S' => rw [z] at p; exact p
      | stuck => rw [z] at p; exact p
      | ok fl S' =>
        rw [z] at p
        cases fl with
        | next δ' => exact fun F' H' σ' s' => ⟨F', δ', S', s', p⟩
        | cont δ' => exact fun F' H' σ' s' => ⟨F', δ', S', s', p⟩
        | brk δ' => exact p
        | ret d => exact p
/-! ### a, b = x, y -/
theorem SS.evdF {K : PySem.W.Frag} {Fb F0 H0 F H : Hp} {σ : L2.St} {δ : Ev} {S : Pn} (s : SS K g Fb F0 H0 F H σ δ S) (l : List Nat) {F' H' : Hp} {S' : Pn} (f : Fwd g (withOwn l F H σ δ) H F' H' S') {d : Pur.D} {v : V} (r : Rep K g F' d v) :
    ∃ F'', SS K g Fb F0 H0 F'' H' σ (if d.flat = true then δ else frz l δ) S' ∧ Rep K g F'' d v ∧ Same F F'' := by
  by_cases c : d.flat = true
  · rw [if_pos c]
    exact ⟨F, s.back l f, flat_rep c r, Same.refl F⟩
  · rw [if_neg c]
    exact ⟨F', s.after l f, r, (s.same l).trans f.ff⟩
theorem PostS.exprF {K : PySem.W.Frag} {Fb F0 H0 F H : Hp} {σ : L2.St} {δ : Ev} {S : Pn} {En : Ends} {e : CE} {cs : CS} {k : Pur.D × Ev → M Fl} (s : SS K g Fb F0 H0 F H σ δ S) (h : PostS K g E Fb F0 H0 (bnd (evS cs e δ) k S) En) :
    tD K g E (ev cs e) σ H fun v H' => ∃ d δ' F' S', SS K g Fb F0 H0 F' H' σ δ' S' ∧ Rep K g F' d v ∧ Same F F' ∧ PostS K g E Fb F0 H0 (k (d, δ') S') En := by
  refine ⟨_, _, S, s.stt (men e), ?_⟩
  unfold evS at h
  rw [bnd_assoc] at h
  unfold bnd at h
  cases z : Pur.ev cs e (vw (men e) δ) S with
  | ok d S' =>
    rw [z] at h
    intro F' H' v f r
    obtain ⟨F'', s', r', sf⟩ := s.evdF (men e) f r
    exact ⟨d, _, F'', S', s', r', sf, h⟩
  | exc c fs S' =>
    rw [z] at h
    intro F' H' dx fv f e1 e2
    exact h F' H' dx fv ((s.fwd0 (men e)).trans f) e1 e2
  | stuck => rw [z] at h; exact h
theorem psd_par {cs : CS} {i j : Nat} {x y : Str} {a b : Expr} {ca cb : CE} {px py pt : Pos} {kt k2 pt2} {pos : Pos} (hc : X.calm = true) (hN : X.N.Nodup) (hi : X.N[i]? = some x) (hj : X.N[j]? = some y) (hij : i ≠ j) (hx : X.env.scope.names.lookup x = some .local) (hy : X.env.scope.names.lookup y = some .local)
    (ha : PD X g E a (ev cs ca)) (hb : PD X g E b (ev cs cb)) (hs1 : starEach [a, b] X.env = (false, eval a X.env) :: starEach [b] X.env) (hs2 : starEach [b] X.env = [(false, eval b X.env)])
    (hw : swappedStores [.Tuple [.Name x px, .Name y py] kt pt] (.Tuple [a, b] k2 pt2) X.env = pure (some [x, y])) :
    PSD X g E (.Assign [.Tuple [.Name x px, .Name y py] kt pt] (.Tuple [a, b] k2 pt2) pos) (fun δ => bnd (evS cs ca δ) fun p => bnd (evS cs cb p.2) fun q => if i < q.2.length ∧ j < q.2.length then ret (.next ((q.2.set i (some (.val p.1))).set j (some (.val q.1)))) else stuck) := by
  refine PS.weak (ps_par hc hN hi hj hij hx hy (pa_cons ha (pa_cons hb pa_nil hs2) hs1) hw rfl) fun D σ H q => ?_
  obtain ⟨Fb, F0, H0, F, δ, S, s, p⟩ := q
  refine tD_imp (p.expr s) fun v H1 h => ?_
  obtain ⟨d, δ1, F1, S1, s1, r1, p1⟩ := h
  refine tD_imp (p1.exprF s1) fun w H2 h => ?_
  obtain ⟨e, δ2, F2, S2, s2, r2, sf, p2⟩ := h
  by_cases c : i < δ2.length ∧ j < δ2.length
  · have p2 : PostS X.K g E Fb F0 H0 (if i < δ2.length ∧ j < δ2.length then (ret (.next ((δ2.set i (some (.val d))).set j (some (.val e)))) : M Fl) S2 else (stuck : M Fl) S2) D := by
      rw [if_pos c]
      have := p2
      simp only [c, and_self, if_true] at this
      exact this
    rw [if_pos c] at p2
    refine ⟨v, w, rfl, p2 F2 H2 _ ((s2.set (Rep.mono sf d v r1) c.1).set r2 (by rw [List.length_set]; exact c.2))⟩
  · have p2 := p2
    simp only [c, if_false] at p2
    exact p2.elim
theorem psd_par0 {i j : Nat} {x y : Str} {px py pt p1 p2 : Pos} {kt k2 pt2} {pos : Pos} (hc : X.calm = true) (hN : X.N.Nodup) (hi : X.N[i]? = some x) (hj : X.N[j]? = some y) (hij : i ≠ j) (hx : X.env.scope.names.lookup x = some .local) (hy : X.env.scope.names.lookup y = some .local)
    (hw : swappedStores [.Tuple [.Name x px, .Name y py] kt pt] (.Tuple [.List [] p1, .List [] p2] k2 pt2) X.env = pure (some [x, y])) :
    PSD X g E (.Assign [.Tuple [.Name x px, .Name y py] kt pt] (.Tuple [.List [] p1, .List [] p2] k2 pt2) pos) (fun δ => if i < δ.length ∧ j < δ.length then ret (.next ((δ.set i (some (.own []))).set j (some (.own [])))) else stuck) := by
  refine PS.weak (ps_par hc hN hi hj hij hx hy (pa_cons (pe_lst pa_nil) (pa_cons (pe_lst pa_nil) pa_nil)) hw rfl) fun D σ H q => ?_
  obtain ⟨Fb, F0, H0, F, δ, S, s, p⟩ := q
  by_cases c : i < δ.length ∧ j < δ.length
  · simp only [c, and_self, if_true] at p
    refine ⟨Nat.zero_le _, fun a ha => ⟨Nat.zero_le _, fun b hb => ⟨_, _, rfl, ?_⟩⟩⟩
    have n0 : ∀ {a : Addr} {H : Hp}, Fwd g F0 H0 F H S → H a = none → NT H0 a := fun {a H} f h => (NT.of h).back f
    have fn : ∀ {a : Addr} {H : Hp}, Fwd g F0 H0 F H S → H a = none → F a = none := fun {a H} f h => by
      cases y : F a with
      | none => rfl
      | some o => rw [f.fh a o y] at h; cases h
    have ext : ∀ {H : Hp} {a : Addr} {σ : L2.St} {δ : Ev} {o : HO}, SS X.K g Fb F0 H0 F H σ δ S → H a = none → SS X.K g Fb F0 H0 F (upd H a o) σ δ S := fun {H a σ δ o} s h => by
      have hp : g.pa ≠ a := ne_of_none s.fw.pn.at_ h
      refine ⟨s.fb, s.fw.upd' (n0 s.fw h) (fn s.fw h) hp (by rw [h]; exact noTab_none), s.pa, s.len, s.val, fun k xs hk => ?_, s.dis⟩
      obtain ⟨b, vs, hv, hH, q⟩ := s.own k xs hk
      exact ⟨b, vs, hv, by rw [upd_ne (ne_of_none hH h)]; exact hH, q⟩
    have nw : ∀ {H : Hp} {a : Addr} {σ : L2.St} {δ : Ev}, SS X.K g Fb F0 H0 F H σ δ S → H a = none → ∀ (k : Nat) (ys : List Pur.D), δ[k]? = some (some (.own ys)) → σ[k]? ≠ some (some (.ref a)) := fun {H a σ δ} s h k ys hk e => by
      obtain ⟨b, vs, hv, hH, _⟩ := s.own k ys hk
      rw [e] at hv; cases hv
      rw [h] at hH; cases hH
    have s1 := ext (o := .lst []) s ha
    have s1' := s1.setO (i := i) (a := a) (xs := []) (vs := []) c.1 upd_same (fn s.fw ha) (n0 s.fw ha) Reps.nil fun k ys _ hk => nw s ha k ys hk
    have s2 := ext (o := .lst []) s1' hb
    have s2' := s2.setO (i := j) (a := b) (xs := []) (vs := []) (by rw [List.length_set]; exact c.2) upd_same (fn s1'.fw hb) (n0 s1'.fw hb) Reps.nil fun k ys _ hk => nw s1' hb k ys hk
    exact p F _ _ s2'
  · simp only [c, if_false] at p
    exact p.elim
end
theorem swS_of {ts vs : List Expr} {sc : Scope} {r : Option (List Str)} {env : Env} {k k2 : Nat} {p p2 : Pos} (h : swS ts vs sc = some r) (hs : env.scope = sc) (hb : env.blockKind = .function) : swappedStores [.Tuple ts k p] (.Tuple vs k2 p2) env = pure r := by
  subst hs
  unfold swS at h
  have hb' : (env.blockKind != ScopeKind.function) = false := by rw [hb]; rfl
  unfold swappedStores
  simp only [hb', Bool.or_false]
  split at h
  · rename_i c; cases h; simp only [c, if_true]
  · rename_i c1
    simp only [c1, if_false]
    split at h
    · rename_i c2; cases h
      exact (if_neg Bool.false_ne_true).trans (if_pos c2)
    · rename_i c2
      refine (if_neg Bool.false_ne_true).trans ((if_neg c2).trans ?_)
      simp only at h
      split at h
      · rename_i c3; cases h
        exact if_pos c3
      · rename_i c3
        refine (if_neg c3).trans ?_
        split at h
        · rename_i c4; cases h
          exact if_pos c4
        · rename_i c4
          refine (if_neg c4).trans ?_
          split at h
          · cases h
          · rename_i c5
            cases h
            exact if_neg c5
end Pur

/-! PurO: lists of one's own: list(e), [..] * n. -/
namespace Pur
open
    PySem PySem.Spec PyProof.Rows L2
section
variable {X : Cx} {g : G} {E : XK}
theorem PostO.ofO {K : PySem.W.Frag} {F H : Hp} {o : Option Pur.D} {S : Pn} {Q : VK} (h : PostO K g E F H (Pur.ofO o S) Q) : ∃ xs, o = some (.lst xs) ∧ ∀ F' H' p vs, Fwd g F H F' H' S → H' p = some (.lst vs) → F' p = none → NT H p → Reps K g F' xs vs → Q (.ref p) H' := by
  cases o with
  | none => exact h.elim
  | some d =>
    obtain ⟨xs, rfl, q⟩ := h
    exact ⟨xs, rfl, q⟩
theorem newO_at {K : PySem.W.Frag} {F H : Hp} {S : Pn} {xs : List Pur.D} {vs : List V} {Q : VK} {p : Addr} (fh : Same F H) (pn : PenOk g F H S) (r : Reps K g F xs vs) (hp : H p = none)
    (q : ∀ F' H' p vs, Fwd g F H F' H' S → H' p = some (.lst vs) → F' p = none → NT H p → Reps K g F' xs vs → Q (.ref p) H') : Q (.ref p) (upd H p (.lst vs)) := by
  have fn : F p = none := by
    cases y : F p with
    | none => rfl
    | some o => rw [fh p o y] at hp; cases hp
  exact q F _ p vs (Fwd.newO fh pn hp) upd_same fn (NT.of hp) r
/-- list(e), as a list of one's own -/
theorem pdo_list {e : Expr} {fe : List (Option Pur.D) → M Pur.D} {p pos : Pos} (hg : Gl X "list") (hm : X.mg "list" = none) (he : PD X g E e fe) (hs : starEach [e] X.env = [(false, eval e X.env)]) :
    PE X (.Call (.Name "list" p) [e] [] pos) (tO X.K g E (fun ρ => bnd (fe ρ) fun d => Pur.ofO (biList d))) := by
  refine PE.weak (pe_callTy call_list_of hg hm (by decide +kernel) (pa_cons he pa_nil hs) (by decide) (by decide) hs rfl) fun σ H Q h => ?_
  obtain ⟨F, ρ, S, st, p⟩ := h
  refine ⟨F, ρ, S, st, (p.bind (RepD X.K g)).imp ?_⟩
  rintro x H1 ⟨d, F1, S1, f1, r1, p⟩
  obtain ⟨xs, e, q⟩ := p.ofO
  have r1 : Rep X.K g F1 d x := r1
  cases d <;> simp only [biList] at e <;> (try (cases e; done)) <;> cases e <;> simp only [Rep] at r1 <;> obtain ⟨a, ws, rfl, hq, rs⟩ := r1
  · exact ⟨a, ws, rfl, .inr (TupAt.sq f1.fh hq), fun l hl => newO_at f1.fh f1.pn rs hl q⟩
  · exact ⟨a, ws, rfl, .inl (SqL.of (f1.fh _ _ hq)), fun l hl => newO_at f1.fh f1.pn rs hl q⟩
/-- [..] * n, as a list of one's own -/
theorem pdo_rep {a b : Expr} {fa fb : List (Option Pur.D) → M Pur.D} {pos : Pos} (ha : PD X g E a fa) (hb : PD X g E b fb) :
    PE X (.BinOp a .Mult b pos) (tO X.K g E (fun ρ => bnd (fa ρ) fun x => bnd (fb ρ) fun y => Pur.ofO (binD .Mult x y))) := by
  refine PE.weak (pe_op op_rep ha hb) fun σ H Q h => ?_
  obtain ⟨F, ρ, S, st, p⟩ := h
  refine ⟨F, ρ, S, st, (p.bind (RepD X.K g)).imp ?_⟩
  rintro x H1 ⟨dx, F1, S1, f1, r1, p⟩
  refine ⟨F1, ρ, S1, st.fwd f1, (p.bind (RepD X.K g)).imp ?_⟩
  rintro y H2 ⟨dy, F2, S2, f2, r2, p⟩
  obtain ⟨xs, e, q⟩ := p.ofO
  have r1' : Rep X.K g F2 dx x := f2.to r1
  have r2' : Rep X.K g F2 dy y := r2
  obtain ⟨ys, i, rfl, rfl⟩ : ∃ ys i, dx = .lst ys ∧ dy = .int i := by
    cases dx <;> cases dy <;> simp only [binD] at e <;> (try (cases e; done))
    all_goals first
      | exact ⟨_, _, rfl, rfl⟩
      | (exfalso; split at e <;> first | (cases e; done) | (split at e <;> cases e))
  simp only [binD] at e
  obtain ⟨c, e⟩ := ofIf e
  cases e
  simp only [Rep] at r1' r2'
  obtain ⟨p1, vs, rfl, hq, rs⟩ := r1'
  subst r2'
  exact ⟨p1, _, vs, rfl, rfl, f2.fh _ _ hq, by omega, by omega, by rw [rs.len]; exact c.2.2, fun p hp => newO_at f2.fh f2.pn (rs.rep _) hp q⟩
end
end Pur

/-! Pur14: statements are sound; a def keeps its promise. -/
namespace Pur
open
    PySem PySem.Spec PyProof.Rows L2
/-- the raise statement, where it is served -/
def RaisOk (T : Tx) (g : G) (cs : CS) (mk : MkE) (N : List Str) (sc : Scope) (E : XK) (X : Cx) : Prop := ∀ (x : Str) (a : Expr) (args : List Expr) (p p' pos : Pos) (l : List CE), T.errs.contains x = true → glN sc x = true → okName x = true → mapO (cE T N 40 sc) (a :: args) = some l →
  PSD X g E (.Raise (some (.Call (.Name x p) (a :: args) [] p')) none pos) (fun δ => bnd (evs cs l (vw (mens l) δ)) fun ds => match mk x ds with
    | some fs => fun s => .exc x fs s
    | none => stuck)
/-- a def's own context -/
structure DOk (T : Tx) (g : G) (cs : CS) (mk : MkE) (N : List Str) (sc0 : Scope) (E : XK) (k : Nat) (X : Cx) : Prop extends XOk T g cs N sc0 E k X where
  blk : X.env.blockKind = .function
  fnT : ∀ x, X.fn x = true
  po : PassesOwn (model X.prog X.w) X.A X.env X.xe
  rais : RaisOk T g cs mk N sc0 E X
section
variable {T : Tx} {g : G} {cs : CS} {mk : MkE} {N : List Str} {sc : Scope} {E : XK} {k : Nat} {X : Cx}
theorem DOk.tg (o : DOk T g cs mk N sc E k X) : TgOk X sc := fun x hx => ⟨by rw [o.sc]; exact loc_of hx, .inl (o.fnT x)⟩
theorem DOk.snd (o : DOk T g cs mk N sc E k X) {n : Nat} {e : Expr} {c : CE} (h : cE T N n sc e = some c) : Snd X g E cs e c := sound_E n sc e c h X E o.toXOk
theorem pdo_lst {es : List Expr} {l : List CE} {pos : Pos} (h : PDs X g E es (evs cs l)) (hl : l.length ≤ 1000) : PE X (.List es pos) (tO X.K g E (ev cs (.lst l))) := by
  refine PE.weak (pe_lst h) fun σ H Q h => ?_
  obtain ⟨F, ρ, S, st, p⟩ := h
  have e0 : ev cs (.lst l) ρ = bnd (evs cs l ρ) fun ds => ret (.lst ds) := by simp only [ev]
  rw [e0] at p
  refine ⟨F, ρ, S, st, ?_⟩
  have p' := p.bind (RepsD X.K g)
  cases z : evs cs l ρ S with
  | stuck => rw [z] at p'; exact p'
  | exc c fs S' => rw [z] at p'; exact p'
  | ok ds S' =>
    rw [z] at p'
    intro F1 H1 vs f1 r1
    obtain ⟨ds', F2, S2, f2, r2, p2⟩ := p' F1 H1 vs f1 r1
    obtain ⟨xs, ex, q⟩ := p2
    cases ex
    have hn : vs.length ≤ 1000 := by
      have h1 := Reps.len (show Reps X.K g F1 ds vs from r1)
      have h2 := evs_len z
      omega
    refine ⟨Nat.le_trans hn (by rw [sizeLine_eq]; decide), fun a ha => ?_⟩
    have fn : F2 a = none := by
      cases y : F2 a with
      | none => rfl
      | some o => rw [f2.fh a o y] at ha; cases ha
    exact q F2 _ a vs (Fwd.newO f2.fh f2.pn ha) upd_same fn (NT.of ha) r2
/-- name = e -/
theorem sound_A (o : DOk T g cs mk N sc E k X) {n i : Nat} {y : Str} {py spos : Pos} {e : Expr} {c : CE} (h : cE T N (n + 1) sc e = some c) (hy : X.N[i]? = some y) (hx : locN sc y = true) :
    PS X (.Assign [.Name y py] e spos) (tAsg (tD X.K g E (ev cs c)) (gName i)) ∧ (fresh e = true → ((isListC e).isNone = true ∨ T.free.contains "list" = true) → PS X (.Assign [.Name y py] e spos) (tAsg (tO X.K g E (ev cs c)) (gName i))) := by
  have hl : Loc X.env.scope y := by rw [o.sc]; exact loc_of hx
  have hf : X.fn y = true ∨ X.env.scope.names.lookup y = some .local := .inl (o.fnT y)
  have plain : (∀ t l env, swapsWith e t l env = pure false) → PS X (.Assign [.Name y py] e spos) (tAsg (tD X.K g E (ev cs c)) (gName i)) := fun hs => ps_set o.nd hy hl (o.snd h).d (hs _ _ _) hf
  cases e with
  | List es pos =>
    refine ⟨plain fun _ _ _ => rfl, fun _ _ => ?_⟩
    simp only [cE] at h
    obtain ⟨hn, h⟩ := ite_some h
    obtain ⟨l, h1, rfl⟩ := mapO' h
    exact ps_set o.nd hy hl (pdo_lst (mapO_pds (fun e c h => (o.snd h).d) h1) (by rw [mapO_len h1]; exact hn)) rfl hf
  | ListComp elt gens scope pos =>
    rcases gens with _ | ⟨⟨tg, iter, ifs, a⟩, _ | ⟨⟨tg1, iter1, ifs1, a1⟩, _ | ⟨g3, r⟩⟩⟩
    · simp [cE] at h
    · simp only [cE] at h
      obtain ⟨⟨ea, hb, hf'⟩, hh⟩ := ite_some h; clear h; subst ea
      obtain ⟨it, h1, h⟩ := bindO hh
      obtain ⟨t, h2, h⟩ := bindO h
      obtain ⟨fs, h3, h⟩ := bindO h
      obtain ⟨el, h4, h⟩ := bindO h
      obtain ⟨hs, h⟩ := ite_some h
      cases h
      have P := lc_parts (g := g) (cs := cs) (E := E) (X := X) o.toXOk (fun sc e c h X E o => sound_E n sc e c h X E o) hb hf' h1 h2 h3 h4 hs
      rw [ev_lc]
      have r := psa_lc (i := i) (y := y) (py := py) (pos := pos) (spos := spos) o.calm o.nd P hy hl hf
      exact ⟨r.1, fun _ _ => r.2⟩
    · simp only [cE] at h
      obtain ⟨⟨ea, eb, hb, hf0, hf1⟩, hh⟩ := ite_some h; clear h; subst ea eb
      obtain ⟨it, h1, h⟩ := bindO hh
      obtain ⟨t, h2, h⟩ := bindO h
      obtain ⟨fs, h3, h⟩ := bindO h
      obtain ⟨it1, h1', h⟩ := bindO h
      obtain ⟨t1, h2', h⟩ := bindO h
      obtain ⟨fs1, h3', h⟩ := bindO h
      obtain ⟨el, h4, h⟩ := bindO h
      obtain ⟨⟨hs, hs'⟩, h⟩ := ite_some h
      cases h
      have e0 : ev cs (.lc2 ((ownOf N scope).map (·.2)) (tslots t1) t it fs t1 it1 fs1 el) = fun ρ => bnd (evI cs it ρ) fun ds => bnd (noX (compGo2 (lc2Body ((ownOf N scope).map (·.2)) (tslots t1) t (evTs cs fs) (evI cs it1) t1 (evTs cs fs1) (ev cs el) ρ) ds [])) fun out => ret (.lst out) := by funext ρ; simp only [ev]; rfl
      rw [e0]
      have ih := fun sc e c h X E o => sound_E (T := T) (g := g) (cs := cs) (N := N) (k := k) n sc e c h X E o
      have O := o.toXOk
      refine ⟨?_, fun z _ => by simp [fresh] at z⟩
      exact psa_lc2 o.calm o.nd (cI_snd O (fun e c h => (ih _ e c h X E O).d) h1) (by rw [O.n, O.sc]; exact blkOk_by hb) (subL_of hs')
        (fun s H C cl fp => (pg_of (X := X.blk s H scope (compEnvC scope cl C X.env) fp) (g := g) o.nd o.calm (tgOk_blk rfl s H scope C cl fp) tg t (by show cT X.N scope tg = some t; rw [O.n]; exact h2)).1)
        (fun s H C cl fp => pts_of (X := X.blk s H scope (compEnvC scope cl C X.env) fp) (fun e c h => (ih _ e c h _ _ (O.blk s H scope C cl fp)).t) hf0 h3)
        (fun s H C cl fp => cI_snd (O.blk s H scope C cl fp) (fun e c h => (ih _ e c h _ _ (O.blk s H scope C cl fp)).d) h1')
        (fun s H C cl fp => (pg_of (X := X.blk s H scope (compEnvC scope cl C X.env) fp) (g := g) o.nd o.calm (tgOk_blk rfl s H scope C cl fp) tg1 t1 (by show cT X.N scope tg1 = some t1; rw [O.n]; exact h2')).1)
        (fun s H C cl fp => pts_of (X := X.blk s H scope (compEnvC scope cl C X.env) fp) (fun e c h => (ih _ e c h _ _ (O.blk s H scope C cl fp)).t) hf1 h3')
        (fun s H C cl fp => (ih _ _ _ h4 _ _ (O.blk s H scope C cl fp)).d) (fun x => cI_fold h1 _ x) (fun env x => cI_fold h1' env x) (subL_of hs) (fun i hi => hi) hy hl hf
    · simp [cE] at h
  | BinOp a op b p =>
    refine ⟨plain fun _ _ _ => rfl, fun z _ => ?_⟩
    have hop : op = .Mult := by cases op <;> first | rfl | (cases a <;> cases z)
    subst hop
    simp only [cE] at h
    obtain ⟨a', h1, h⟩ := bindO h
    obtain ⟨b', h2, rfl⟩ := mapO' h
    rw [bi_eq]
    exact ps_set o.nd hy hl (pdo_rep (o.snd h1).d (o.snd h2).d) rfl hf
  | Call fe args kws p =>
    refine ⟨plain fun _ _ _ => rfl, fun z w => ?_⟩
    obtain ⟨p1, e, rfl, rfl, rfl⟩ : ∃ p1 e, fe = .Name "list" p1 ∧ args = [e] ∧ kws = [] := by
      rcases args with _ | ⟨e, _ | ⟨e2, r⟩⟩ <;> rcases kws with _ | ⟨k1, kr⟩ <;> cases fe <;> first | (cases z; done) | skip
      rename_i f p1
      have z : (f == ("list" : Str)) = true := z
      have : f = "list" := by simpa using z
      subst this
      exact ⟨p1, e, rfl, rfl, rfl⟩
    have hfree : T.free.contains "list" = true := by
      rcases w with w | w
      · cases w
      · exact w
    simp only [cE] at h
    by_cases hgl : okName "list" = true ∧ glN sc "list" = true
    rotate_left
    · rw [if_neg hgl] at h
      obtain ⟨⟨_, _, hn⟩, _⟩ := ite_some h
      rw [hfree] at hn
      cases hn
    rw [if_pos hgl] at h
    obtain ⟨ok, hg⟩ := hgl
    rw [if_neg (by rintro ⟨z, _⟩; exact absurd z (by decide))] at h
    rw [if_neg (by rintro ⟨z, _⟩; exact absurd z (by decide))] at h
    obtain ⟨ds, h1, h⟩ := bindO h
    simp only [mapO] at h1
    obtain ⟨c1, h2, h3⟩ := bindO h1
    cases h3
    have hm := o.wf.free _ hfree
    split at h
    · rename_i fn hfn
      have := (o.wf.fn _ _ hfn).1
      rw [hm] at this; cases this
    · obtain ⟨_, h⟩ := ite_some h
      obtain ⟨b, hb, rfl⟩ := mapO' h
      have eb : b = .list := by
        have : biName "list" = some Bi.list := by kernel_rfl
        rw [this] at hb; cases hb; rfl
      subst eb
      have e0 : ev cs (.bi .list [c1]) = fun ρ => bnd (ev cs c1 ρ) fun d => Pur.ofO (biList d) := by
        funext ρ S
        simp only [ev, evs]
        unfold bnd
        cases ev cs c1 ρ S <;> rfl
      rw [e0]
      exact ps_set o.nd hy hl (pdo_list (gl_of o.sc hg) hm (o.snd h2).d (by rw [cE_star h2]; rfl)) rfl hf
  | SetComp _ _ _ _ => simp [cE] at h
  | DictComp _ _ _ _ _ => simp [cE] at h
  | _ => exact ⟨plain fun _ _ _ => rfl, fun z _ => by simp [fresh] at z⟩
end
end Pur

/-! PurY: further statements: own lists by list(e) and by [..] * n, x, y = (list(e), []), x.append(y.pop(k)), x[i], x[j] = e. -/
namespace Pur
open
    PySem PySem.Spec PyProof.Rows L2
section
variable {X : Cx} {g : G} {E : XK}
/-! ### new lists in the state between statements -/
section
variable {K : PySem.W.Frag} {Fb F0 H0 F H : Hp} {σ : L2.St} {δ : Ev} {S : Pn} {a : Addr}
theorem SS.out (s : SS K g Fb F0 H0 F H σ δ S) (h : H a = none) : NT H0 a ∧ F a = none ∧ g.pa ≠ a := by
  refine ⟨(NT.of h).back s.fw, ?_, ne_of_none s.fw.pn.at_ h⟩
  cases y : F a with
  | none => rfl
  | some o => rw [s.fw.fh a o y] at h; cases h
theorem SS.grow {o : HO} (s : SS K g Fb F0 H0 F H σ δ S) (h : H a = none) : SS K g Fb F0 H0 F (L2.upd H a o) σ δ S := by
  obtain ⟨h0, hF, hp⟩ := s.out h
  refine ⟨s.fb, s.fw.upd' h0 hF hp (by rw [h]; exact noTab_none), s.pa, s.len, s.val, fun k xs hk => ?_, s.dis⟩
  obtain ⟨b, vs, hv, hH, q⟩ := s.own k xs hk
  exact ⟨b, vs, hv, by rw [upd_ne (ne_of_none hH h)]; exact hH, q⟩
theorem SS.newOwn {i : Nat} {xs : List Pur.D} {vs : List V} (s : SS K g Fb F0 H0 F H σ δ S) (h : H a = none) (hi : i < δ.length) (r : Reps K g F xs vs) :
    SS K g Fb F0 H0 F (L2.upd H a (.lst vs)) (σ.set i (some (.ref a))) (δ.set i (some (.own xs))) S := by
  obtain ⟨h0, hF, hp⟩ := s.out h
  refine (s.grow (o := .lst vs) h).setO hi upd_same hF h0 r fun k ys _ hk e => ?_
  obtain ⟨b, ws, hv, hH, _⟩ := s.own k ys hk
  rw [e] at hv; cases hv
  rw [h] at hH; cases hH
end
/-- x, y = (list(e), []) -/
theorem psd_parL {cs : CS} {i j : Nat} {x y : Str} {e : Expr} {c : CE} {px py pt p1 p2 p3 : Pos} {kt k2 pt2} {pos : Pos} (hc : X.calm = true) (hN : X.N.Nodup) (hi : X.N[i]? = some x) (hj : X.N[j]? = some y) (hij : i ≠ j) (hx : X.env.scope.names.lookup x = some .local) (hy : X.env.scope.names.lookup y = some .local)
    (hg : Gl X "list") (hm : X.mg "list" = none) (he : PD X g E e (ev cs c)) (hs : starEach [e] X.env = [(false, eval e X.env)])
    (hw : swappedStores [.Tuple [.Name x px, .Name y py] kt pt] (.Tuple [.Call (.Name "list" p1) [e] [] p2, .List [] p3] k2 pt2) X.env = pure (some [x, y])) :
    PSD X g E (.Assign [.Tuple [.Name x px, .Name y py] kt pt] (.Tuple [.Call (.Name "list" p1) [e] [] p2, .List [] p3] k2 pt2) pos) (fun δ => bnd (evS cs c δ) fun p => Pur.ofO ((seqD p.1).bind fun xs => if i < p.2.length ∧ j < p.2.length then some (.next ((p.2.set i (some (.own xs))).set j (some (.own [])))) else none)) := by
  refine PS.weak (ps_par hc hN hi hj hij hx hy (pa_cons (pe_callTy call_list_of hg hm (by decide +kernel) (pa_cons he pa_nil hs) (by decide) (by decide) hs rfl) (pa_cons (pe_lst pa_nil) pa_nil)) hw rfl) fun D σ H q => ?_
  obtain ⟨Fb, F0, H0, F, δ, S, s, p⟩ := q
  refine tD_imp (p.expr s) fun v H' h => ?_
  obtain ⟨d, δ', F', S', s', r, p'⟩ := h
  obtain ⟨fl, e1, p'⟩ := p'.ofO
  obtain ⟨xs, e2, e3⟩ := bindO e1
  obtain ⟨⟨ci, cj⟩, rfl⟩ := ofIf e3
  obtain ⟨a, ws, rfl, hsq, rs⟩ : ∃ a ws, v = .ref a ∧ (SqL X.K H' a ws ∨ SqT X.K H' a ws) ∧ Reps X.K g F' xs ws := by
    cases d <;> simp only [seqD] at e2 <;> (try (cases e2; done)) <;> cases e2 <;> simp only [Rep] at r <;> obtain ⟨a, ws, rfl, hq, rs⟩ := r
    · exact ⟨a, ws, rfl, .inr (TupAt.sq s'.fw.fh hq), rs⟩
    · exact ⟨a, ws, rfl, .inl (SqL.of (s'.fw.fh _ _ hq)), rs⟩
  refine ⟨a, ws, rfl, hsq, fun l hl => ⟨Nat.zero_le _, fun b hb => ⟨_, _, rfl, ?_⟩⟩⟩
  have s1 := s'.newOwn (i := i) hl ci rs
  have s2 := s1.newOwn (i := j) (xs := []) (vs := []) hb (by rw [List.length_set]; exact cj) Reps.nil
  exact p' F' _ _ s2
theorem Reps.erase {K : PySem.W.Frag} {F : Hp} : ∀ {ds : List Pur.D} {vs : List V} (k : Nat), Reps K g F ds vs → Reps K g F (ds.eraseIdx k) (vs.eraseIdx k)
  | [], vs, k, h => by simp only [Reps] at h; subst h; simp; exact Reps.nil
  | d :: ds, vs, 0, h => by
    simp only [Reps] at h
    obtain ⟨v, r, rfl, q, t⟩ := h
    simpa using t
  | d :: ds, vs, k + 1, h => by
    simp only [Reps] at h
    obtain ⟨v, r, rfl, q, t⟩ := h
    simp only [List.eraseIdx_cons_succ]
    exact Reps.cons q (Reps.erase k t)
/-- x.append(y.pop(e)) -/
theorem psd_popApp {cs : CS} {x y : Str} {i j : Nat} {p1 p2 apos cpos apos2 cpos2 pos : Pos} {e : Expr} {c : CE} (hN : X.N[i]? = some x) (hv : Vis X.env.scope x) (o : OkName x) (hN2 : X.N[j]? = some y) (hv2 : Vis X.env.scope y) (o2 : OkName y) (he : PD X g E e (ev cs c)) (hs : starEach [e] X.env = [(false, eval e X.env)])
    (hl : apos.endLine = cpos.line) (hl2 : apos2.endLine = cpos2.line) :
    PSD X g E (.Expr (.Call (.Attribute (.Name x p1) "append" apos) [.Call (.Attribute (.Name y p2) "pop" apos2) [e] [] cpos2] [] cpos) pos) (fun δ => bnd (Pur.ofO (ownAt δ i)) fun _ => bnd (Pur.ofO (ownAt δ j)) fun _ => bnd (evS cs c δ) fun p => Pur.ofO (popAppD p.2 i j p.1)) := by
  refine PS.weak (ps_expr (pe_bm PySem.F.plainAttrs_list PySem.F.slot_list_append PySem.F.type_list_append mt_append (pe_var hN hv o.d o.c) (pa_cons (pe_bm PySem.F.plainAttrs_list PySem.F.slot_list_pop PySem.F.type_list_pop mt_popAt (pe_var hN2 hv2 o2.d o2.c) (pa_cons he pa_nil hs) rfl (few1 hs) (by simp [hl2]) hs rfl) pa_nil) rfl (few1 rfl) (by simp [hl]) rfl rfl) rfl) fun D σ H q => ?_
  obtain ⟨Fb, F0, H0, F, δ, S, s, p⟩ := q
  obtain ⟨xs0, e0, p⟩ := p.some
  obtain ⟨ys0, e1, p⟩ := p.some
  have e0 := ownAt_of e0
  have e1 := ownAt_of e1
  obtain ⟨a, vs0, ha, hH, hF, h0, r0⟩ := s.own i xs0 e0
  obtain ⟨b, ws0, hb, hH2, hF2, h02, r02⟩ := s.own j ys0 e1
  refine ⟨.ref a, ha, Or.inl ⟨rfl, _, SqL.of hH⟩, .ref b, hb, Or.inl ⟨rfl, _, SqL.of hH2⟩, ?_⟩
  refine tD_imp (p.exprO s) fun v H' h => ?_
  obtain ⟨d, δ', F', S', s', r, back, p'⟩ := h
  obtain ⟨fl, e2, p'⟩ := p'.ofO
  cases d <;> simp only [popAppD] at e2 <;> (try (cases e2; done))
  rename_i k
  simp only [Rep] at r
  subst r
  obtain ⟨xs, e3, e2⟩ := bindO e2
  obtain ⟨ys, e4, e2⟩ := bindO e2
  obtain ⟨⟨hij, k0, k1, k2, hz⟩, e2⟩ := ite_some e2
  obtain ⟨y, ey, rfl⟩ := mapO' e2
  have e3 := ownAt_of e3
  have e4 := ownAt_of e4
  obtain ⟨vs, hA, rx⟩ := look_own (H := H) (δ := δ) (F := F) (S := S) s' ha e3
  obtain ⟨ws, hB, ry⟩ := look_own (H := H) (δ := δ) (F := F) (S := S) s' hb e4
  obtain ⟨w, hw, rw'⟩ := ry.get ey
  have l1 := rx.len
  have l2 := ry.len
  have hab : a ≠ b := fun z => s'.dis i j xs ys a hij e3 e4 ha (z ▸ hb)
  have hsq : seqIndex? k ws.length = some k.toNat := by
    unfold seqIndex?
    rw [if_neg (by omega : ¬ k < 0)]
    simp; omega
  refine ⟨b, ws, k, k.toNat, w, rfl, rfl, hB, by omega, by omega, hsq, hw, a, vs, w, rfl, rfl, ?_, by rw [sizeLine_eq]; omega, ?_⟩
  · rw [upd_ne hab]; exact hA
  · have s1 := SS.upd (i := j) s' e4 hb (Reps.erase k.toNat ry)
    have e3' : (δ'.set j (some (Sl.own (ys.eraseIdx k.toNat))))[i]? = some (some (.own xs)) := by rw [List.getElem?_set_ne (Ne.symm hij)]; exact e3
    exact p' F' _ σ (SS.upd (i := i) s1 e3' ha (rx.app (Reps.one rw')))
theorem gSub_imp {K : PySem.W.Frag} {f : List (Option Pur.D) → M Pur.D} {i : Nat} {v : V} {σ : L2.St} {H : Hp} {Q Q' : L2.St → Hp → Prop} (h : gSub (tVar i) (tD K g E f) rSetL v σ H Q) (w : ∀ σ H, Q σ H → Q' σ H) : gSub (tVar i) (tD K g E f) rSetL v σ H Q' := by
  obtain ⟨o, ho, h⟩ := h
  refine ⟨o, ho, tD_imp h fun x H' h => ?_⟩
  obtain ⟨p, xs, k, j, e1, e2, hp, hj, q⟩ := h
  exact ⟨p, xs, k, j, e1, e2, hp, hj, w _ _ q⟩
/-- one of two stores x[k] = d -/
theorem set1_read {K : PySem.W.Frag} {cs : CS} {Fb F0 H0 F H : Hp} {σ : L2.St} {δ : Ev} {S : Pn} {En : Ends} {i : Nat} {ci : CE} {d : Pur.D} {v : V} {k : Ev → M Fl} (s : SS K g Fb F0 H0 F H σ δ S) (r : Rep K g F d v) (p : PostS K g E Fb F0 H0 (bnd (setO1 cs i ci d δ) k S) En) :
    gSub (tVar i) (tD K g E (ev cs ci)) rSetL v σ H fun σ' H' => σ' = σ ∧ ∃ F' δ' S', SS K g Fb F0 H0 F' H' σ δ' S' ∧ Same F F' ∧ PostS K g E Fb F0 H0 (k δ' S') En := by
  unfold setO1 at p
  simp only [bnd_assoc] at p
  obtain ⟨xs0, e0, p⟩ := p.some
  obtain ⟨a, vs0, ha, hH, hF, h0, r0⟩ := s.own i xs0 (ownAt_of e0)
  refine ⟨.ref a, ha, ?_⟩
  refine tD_imp (PostS.exprF s p) fun w H' h => ?_
  obtain ⟨kd, δ', F', S', s', rk, sf, p'⟩ := h
  obtain ⟨δ2, e1, p'⟩ := p'.some
  obtain ⟨xs, e2, e3⟩ := bindO e1
  obtain ⟨ys, e4, rfl⟩ := mapO' e3
  obtain ⟨n, m, rfl, e5, rfl⟩ : ∃ n m, kd = .int n ∧ L2.ixN xs.length n = Option.some m ∧ ys = xs.set m d := by
    cases kd <;> simp only [setAt] at e4 <;> (try (cases e4; done))
    obtain ⟨m, e5, rfl⟩ := mapO' e4
    exact ⟨_, m, rfl, e5, rfl⟩
  simp only [Rep] at rk
  subst rk
  have e2 := ownAt_of e2
  obtain ⟨vs, hH', rs⟩ := look_own (H := H) (δ := δ) (F := F) (S := S) s' ha e2
  exact ⟨a, vs, n, m, rfl, rfl, hH', by rw [rs.len]; exact e5, rfl, F', _, S', s'.upd e2 ha (Reps.set (Rep.mono sf d v r) m rs), sf, p'⟩
/-- x[i], x[j] = e -/
theorem psd_set2 {cs : CS} {x : Str} {j kt : Nat} {p1 p2 p3 p4 pt pos : Pos} {e i1 i2 : Expr} {c c1 c2 : CE} (hc : X.calm = true) (hN : X.N[j]? = some x) (hv : Vis X.env.scope x) (o : OkName x) (he : PD X g E e (ev cs c)) (h1 : PD X g E i1 (ev cs c1)) (h2 : PD X g E i2 (ev cs c2))
    (hs : swapsWithSole [.Tuple [.Subscript (.Name x p1) i1 p2, .Subscript (.Name x p3) i2 p4] kt pt] e pos.line X.env = pure false) (hw : swappedStores [.Tuple [.Subscript (.Name x p1) i1 p2, .Subscript (.Name x p3) i2 p4] kt pt] e X.env = pure none)
    (a1 : ∀ v, assign (.Subscript (.Name x p1) i1 p2) X.env v = (do
      let ov ← holding [v] (eval (.Name x p1) X.env)
      let iv ← holding [v, ov] (eval i1 X.env)
      standAt p2
      holding
          [v, ov, iv] (setItem ov iv v)
      release [v, ov, iv] []))
    (a2 : ∀ v, assign (.Subscript (.Name x p3) i2 p4) X.env v = (do
      let ov ← holding [v] (eval (.Name x p3) X.env)
      let iv ← holding [v, ov] (eval i2 X.env)
      standAt p4
      holding
          [v, ov, iv] (setItem ov iv v)
      release [v, ov, iv] [])) :
    PSD X g E (.Assign [.Tuple [.Subscript (.Name x p1) i1 p2, .Subscript (.Name x p3) i2 p4] kt pt] e pos) (fun δ => bnd (evS cs c δ) fun p => bnd (Pur.ofO (twoD p.1)) fun w => bnd (setO1 cs j c1 w.1 p.2) fun δ1 => bnd (setO1 cs j c2 w.2 δ1) fun δ2 => ret (.next δ2)) := by
  refine PS.weak (ps_asg he (pg_tup hc (pgs_cons (pg_sub (pe_var hN hv o.d o.c) h1 set_list a1) (pgs_cons (pg_sub (pe_var hN hv o.d o.c) h2 set_list a2) pgs_nil))) hs hw rfl) fun D σ H q => ?_
  obtain ⟨Fb, F0, H0, F, δ, S, s, p⟩ := q
  refine tD_imp (p.exprF s) fun v H' h => ?_
  obtain ⟨d, δ', F', S', s', r, _, p'⟩ := h
  obtain ⟨w, e1, p'⟩ := p'.some
  obtain ⟨da, db, rfl, rfl⟩ : ∃ da db, d = .tup [da, db] ∧ w = (da, db) := by
    have e1 : twoD d = some w := e1
    unfold twoD at e1
    split at e1
    · cases e1; exact ⟨_, _, rfl, rfl⟩
    · cases e1
  simp only [Rep, Reps] at r
  obtain ⟨a, vs, rfl, hq, v1, r1, rfl, q1, v2, r2, rfl, q2, rfl⟩ := r
  refine ⟨a, [v1, v2], rfl, TupAt.sq s'.fw.fh hq, rfl, v1, [v2], rfl, ?_⟩
  refine gSub_imp (set1_read s' q1 p') fun σ' H2 h => ?_
  obtain ⟨rfl, F2, δ2, S2, s2, sf, p2⟩ := h
  refine ⟨v2, [], rfl, gSub_imp (set1_read s2 (Rep.mono sf db v2 q2) p2) fun σ'' H3 h => ?_⟩
  obtain ⟨rfl, F3, δ3, S3, s3, _, p3⟩ := h
  exact ⟨rfl, p3 F3 H3 _ s3⟩
end
end Pur

/-! Pur15: statements are sound; a def keeps its promise. -/
namespace Pur
open
    PySem PySem.Spec PyProof.Rows L2
section
variable {T : Tx} {g : G} {cs : CS} {mk : MkE} {N : List Str} {sc : Scope} {E : XK} {k : Nat} {X : Cx} {W : Nat}
theorem cI_cases {n : Nat} {tg it : Expr} {ci : CE} (h : cI T (cE T N n) sc tg it = some ci) : isRng ci = false ∨
    (∃ p a pos ca, it = .Call (.Name "range" p) [a] [] pos ∧ T.free.contains "range" = true ∧ glN sc "range" = true ∧ cE T N n sc a = some ca ∧ ci = .iRng1 ca) ∨
    (∃ p a b pos ca cb, it = .Call (.Name "range" p) [a, b] [] pos ∧ T.free.contains "range" = true ∧ glN sc "range" = true ∧ cE T N n sc a = some ca ∧ cE T N n sc b = some cb ∧ ci = .iRng2 ca cb) := by
  have gen : ∀ e, (cE T N n sc e).map .iVal = some ci → isRng ci = false := fun e h => by
    obtain ⟨_, _, rfl⟩ := mapO' h; rfl
  unfold cI at h
  split at h
  · split at h
    · rename_i cnd
      obtain ⟨rfl, hf, hg⟩ := cnd
      obtain ⟨ca, h1, rfl⟩ := mapO' h
      exact .inr (.inl ⟨_, _, _, ca, rfl, hf, hg, h1, rfl⟩)
    · split at h
      · obtain ⟨ca, h1, rfl⟩ := mapO' h
        exact .inl rfl
      · exact .inl (gen _ h)
  · split at h
    · rename_i cnd
      obtain ⟨rfl, hf, hg⟩ := cnd
      obtain ⟨ca, h1, h⟩ := bindO h
      obtain ⟨cb, h2, rfl⟩ := mapO' h
      exact .inr (.inr ⟨_, _, _, _, ca, cb, rfl, hf, hg, h1, h2, rfl⟩)
    · split at h
      · obtain ⟨ca, h1, h⟩ := bindO h
        obtain ⟨cb, h2, rfl⟩ := mapO' h
        exact .inl rfl
      · exact .inl (gen _ h)
  · exact .inl (gen _ h)
theorem exs_nil (cs : CS) (mk : MkE) (W : Nat) : exs cs mk W [] = fun δ => ret (.next δ) := by funext δ; simp only [exs]
theorem exs_cons (cs : CS) (mk : MkE) (W : Nat) (s : CSt) (r : List CSt) : exs cs mk W (s :: r) = fSeq (ex cs mk W s) (exs cs mk W r) := by funext δ; simp only [exs]; rfl
theorem block_of {n : Nat} {mu : List Str} (ih : ∀ st c, cS T N sc mu n st = some c → PSD X g E st (ex cs mk W c)) : ∀ {sts : List Stmt} {l : List CSt}, mapO (cS T N sc mu n) sts = some l → PSsD X g E sts (exs cs mk W l)
  | [], l, h => by
    simp only [mapO] at h
    cases h
    rw [exs_nil]
    exact pssd_nil
  | s :: sts, l, h => by
    simp only [mapO] at h
    obtain ⟨c, h1, h2⟩ := bindO h
    obtain ⟨l', h3, rfl⟩ := mapO' h2
    rw [exs_cons]
    exact pssd_cons (ih s c h1) (block_of ih h3)
theorem swW (e : Expr) (t : Expr) (h : ∀ x p, t ≠ .Name x p) (l : Nat) (env : Env) : swapsWithSole [t] e l env = pure false := by
  cases e <;> first | rfl | (cases t <;> first | rfl | exact absurd rfl (h _ _))
theorem swN (e : Expr) (l : Nat) (env : Env) (h : isLC e = false) : swapsWith e none l env = pure false := by
  cases e <;> first | rfl | cases h
theorem noSw (t : Expr) (e : Expr) (h : isTupE e = none) (env : Env) : swappedStores [t] e env = pure none := by
  cases e <;> first | (cases h; done) | (cases t <;> rfl)
theorem noSw' (t : Expr) (e : Expr) (h : ∀ l k p, t ≠ .Tuple l k p) (h2 : ∀ l p, t ≠ .List l p) (env : Env) : swappedStores [t] e env = pure none := by
  cases t <;> first | exact absurd rfl (h _ _ _) | exact absurd rfl (h2 _ _) | rfl
theorem subAssign {T : Tx} {N : List Str} {n : Nat} {sc : Scope} {x : Str} {p1 p2 : Pos} {i : Expr} {ci : CE} (h : cE T N n sc i = some ci) (env : Env) (v : Value) : assign (.Subscript (.Name x p1) i p2) env v = (do
      let ov ← holding [v] (eval (.Name x p1) env)
      let
          iv ← holding [v, ov] (eval i env)
      standAt p2
      holding
          [v, ov, iv] (setItem ov iv v)
      release [v, ov, iv] []) := by
  cases i with
  | Slice a b c d => cases n <;> simp [cE] at h
  | _ => rfl
theorem lookLoc {sc : Scope} {x : Str} (h : (sc.names.lookup x == some NameKind.local) = true) : sc.names.lookup x = some .local := by simpa using h
theorem swS_loc {ts vs : List Expr} {sc : Scope} {l : List Str} (h : swS ts vs sc = some (some l)) : ∀ x ∈ l, sc.names.lookup x = some .local := by
  unfold swS at h
  split at h
  · cases h
  · split at h
    · cases h
    · simp only at h
      split at h
      · cases h
      · split at h
        · cases h
        · split at h
          · cases h
          · cases h
            intro x hx
            obtain ⟨e, _, he⟩ := List.mem_filterMap.mp hx
            split at he
            · split at he
              · rename_i c
                cases he
                simp only [Bool.and_eq_true] at c
                exact lookLoc c.1
              · cases he
            · cases he
theorem slotN_ne {N : List Str} {x y : Str} {i j : Nat} (h : slotN N x = some i) (h' : slotN N y = some j) (n : x ≠ y) : i ≠ j := fun e => by
  subst e
  have a := slot_at h
  have b := slot_at h'
  rw [a] at b; cases b; exact n rfl
theorem isNilL_of {e : Expr} (h : isNilL e = true) : ∃ p, e = .List [] p := by
  unfold isNilL at h
  split at h
  · exact ⟨_, rfl⟩
  · cases h
theorem isListC_of {a e : Expr} (h : isListC a = some e) : ∃ p1 p2, a = .Call (.Name "list" p1) [e] [] p2 := by
  unfold isListC at h
  split at h
  · obtain ⟨ef, rfl⟩ := ofIf h
    subst ef
    exact ⟨_, _, rfl⟩
  · cases h
theorem sound_S (o : DOk T g cs mk N sc E k X) (mu : List Str) : ∀ (n : Nat) (st : Stmt) (c : CSt), cS T N sc mu n st = some c → PSD X g E st (ex cs mk W c) := by
  have vis : ∀ x, visN sc x = true → Vis X.env.scope x := fun x h => by rw [o.sc]; exact vis_of h
  have hN : ∀ {x : Str} {i : Nat}, slotN N x = some i → X.N[i]? = some x := fun h => by rw [o.n]; exact slot_at h
  have snd : ∀ {e : Expr} {c : CE}, cE T N 40 sc e = some c → Snd X g E cs e c := fun h => o.snd h
  intro n
  induction n with
  | zero => intro st c h; simp [cS] at h
  | succ n ih =>
    intro st c h
    unfold cS at h
    simp only at h
    split at h
    · -- name = e
      obtain ⟨hx, h⟩ := ite_some h
      obtain ⟨i, h1, h⟩ := bindO h
      obtain ⟨ce, h2, h⟩ := bindO h
      rename_i x px e pos _ _ _
      have A := sound_A (py := px) (spos := pos) o h2 (hN h1) hx
      have rA : ∀ c, c = CSt.asg (.v i) ce → PSD X g E (.Assign [.Name x px] e pos) (ex cs mk W c) := fun c hc => by
        subst hc
        have e0 : ex cs mk W (.asg (.v i) ce) = fun δ => bnd (evS cs ce δ) fun p => ofO ((bindS (.v i) p.1 p.2).map .next) := by funext δ; simp only [ex]
        rw [e0]
        exact psd_set A.1
      split at h
      · split at h
        · rename_i hf
          cases h
          have e0 : ex cs mk W (.own i ce) = fun δ => bnd (evS cs ce δ) fun p => ofO ((lstOf p.1).bind fun xs => if i < p.2.length then some (.next (p.2.set i (some (.own xs)))) else none) := by funext δ; simp only [ex]
          rw [e0]
          exact psd_own (A.2 hf.1 hf.2)
        · cases h; exact rA _ rfl
      · cases h; exact rA _ rfl
    · -- x[i], x[j] = e
      rename_i x p1 i1 p2 y p3 i2 p4 kt pt e pos
      obtain ⟨⟨exy, hv, hk, hsw⟩, h⟩ := ite_some h
      obtain ⟨j, h1, h⟩ := bindO h
      obtain ⟨c1, h2, h⟩ := bindO h
      obtain ⟨c2, h3, h⟩ := bindO h
      obtain ⟨ce, h4, hc⟩ := mapO' h
      clear h
      subst exy
      subst hc
      have hbk := o.blk
      have e0 : ex cs mk W (.set2 j c1 c2 ce) = fun δ => bnd (evS cs ce δ) fun p => bnd (ofO (twoD p.1)) fun w => bnd (setO1 cs j c1 w.1 p.2) fun δ1 => bnd (setO1 cs j c2 w.2 δ1) fun δ2 => ret (.next δ2) := by funext δ; simp only [ex]
      rw [e0]
      have hw : swappedStores [.Tuple [.Subscript (.Name x p1) i1 p2, .Subscript (.Name x p3) i2 p4] kt pt] e X.env = pure none := by
        unfold swS2 at hsw
        cases e with
        | Tuple vs kv pv =>
          simp only [isTupE] at hsw
          split at hsw
          · rename_i hz; exact swS_of hz o.sc hbk
          · cases hsw
        | _ => rfl
      exact psd_set2 o.calm (hN h1) (vis _ hv) (okName_of hk) (snd h4).d (snd h2).d (snd h3).d (swW _ _ (fun _ _ z => by cases z) _ _) hw (subAssign h2 _) (subAssign h3 _)
    · -- a, b = x, y
      rename_i ts kt pt vs kv pv pos _
      have hbk := o.blk
      split at h
      · rename_i x y hsw
        split at h
        · rename_i x' px y' py a b _
          obtain ⟨⟨rfl, rfl, hne⟩, hh⟩ := ite_some h; clear h
          obtain ⟨i, h1, h⟩ := bindO hh
          obtain ⟨j, h2, h⟩ := bindO h
          obtain ⟨ca, h3, h⟩ := bindO h
          obtain ⟨cb, h4, h⟩ := bindO h
          have hl := swS_loc hsw
          have hx : X.env.scope.names.lookup x = some .local := by rw [o.sc]; exact hl x (by simp)
          have hy : X.env.scope.names.lookup y = some .local := by rw [o.sc]; exact hl y (by simp)
          have hw : swappedStores [.Tuple [.Name x px, .Name y py] kt pt] (.Tuple [a, b] kv pv) X.env = pure (some [x, y]) := swS_of hsw o.sc hbk
          have gen : c = CSt.par i j ca cb → PSD X g E (.Assign [.Tuple [.Name x px, .Name y py] kt pt] (.Tuple [a, b] kv pv) pos) (ex cs mk W c) := fun hc => by
            subst hc
            have e0 : ex cs mk W (.par i j ca cb) = fun δ => bnd (evS cs ca δ) fun p => bnd (evS cs cb p.2) fun q => if i < q.2.length ∧ j < q.2.length then ret (.next ((q.2.set i (some (.val p.1))).set j (some (.val q.1)))) else stuck := by funext δ; simp only [ex]
            rw [e0]
            exact psd_par o.calm o.nd (hN h1) (hN h2) (slotN_ne h1 h2 hne) hx hy (snd h3).d (snd h4).d (by rw [cE_star h3]) (by rw [cE_star h4]; rfl) hw
          split at h
          · rename_i hc
            cases h
            obtain ⟨p1, rfl⟩ := isNilL_of hc.1
            obtain ⟨p2, rfl⟩ := isNilL_of hc.2
            have e0 : ex cs mk W (.par0 i j) = fun δ => if i < δ.length ∧ j < δ.length then ret (.next ((δ.set i (some (.own []))).set j (some (.own [])))) else stuck := by funext δ; simp only [ex]
            rw [e0]
            exact psd_par0 o.calm o.nd (hN h1) (hN h2) (slotN_ne h1 h2 hne) hx hy hw
          split at h
          · rename_i hc
            obtain ⟨hc1, hc2, _⟩ := hc
            obtain ⟨⟨hg, hfr⟩, h⟩ := ite_some h
            obtain ⟨e, he, h⟩ := bindO h
            obtain ⟨ce, h5, hce⟩ := mapO' h
            clear h
            subst hce
            obtain ⟨p3, rfl⟩ := isNilL_of hc1
            obtain ⟨p1, p2, rfl⟩ := isListC_of he
            have e0 : ex cs mk W (.parL i j ce) = fun δ => bnd (evS cs ce δ) fun p => ofO ((seqD p.1).bind fun xs => if i < p.2.length ∧ j < p.2.length then some (.next ((p.2.set i (some (.own xs))).set j (some (.own [])))) else none) := by funext δ; simp only [ex]
            rw [e0]
            exact psd_parL o.calm o.nd (hN h1) (hN h2) (slotN_ne h1 h2 hne) hx hy (gl_of o.sc hg) (o.wf.free _ hfr) (snd h5).d (by rw [cE_star h5]; rfl) hw
          · cases h
            exact gen rfl
        · cases h
      · rename_i hsw
        obtain ⟨t, h1, h⟩ := bindO h
        obtain ⟨ce, h2, rfl⟩ := mapO' h
        have h1' : cT X.N sc (.Tuple ts kt pt) = some t := by rw [o.n]; exact h1
        have h2' : cE T N 40 sc (.Tuple vs kv pv) = some ce := h2
        have e0 : ex cs mk W (.asg t ce) = fun δ => bnd (evS cs ce δ) fun p => ofO ((bindS t p.1 p.2).map .next) := by funext δ; simp only [ex]
        rw [e0]
        exact psd_asg (snd h2').d (pg_of o.nd o.calm o.tg _ _ h1').1 (swW _ _ (fun _ _ z => by cases z) _ _) (swS_of hsw o.sc hbk) rfl
      · cases h
    · -- a, b = e
      rename_i ts kt pt e pos _ hnt
      obtain ⟨t, h1, h⟩ := bindO h
      obtain ⟨ce, h2, rfl⟩ := mapO' h
      have h1' : cT X.N sc (.Tuple ts kt pt) = some t := by rw [o.n]; exact h1
      have e0 : ex cs mk W (.asg t ce) = fun δ => bnd (evS cs ce δ) fun p => ofO ((bindS t p.1 p.2).map .next) := by funext δ; simp only [ex]
      rw [e0]
      refine psd_asg (snd h2).d (pg_of o.nd o.calm o.tg _ _ h1').1 (swW _ _ (fun _ _ z => by cases z) _ _) (noSw _ _ ?_ _) rfl
      cases e <;> first | rfl | exact absurd rfl (hnt _ _ _)
    · -- x[i] = e
      rename_i x px i p2 e pos
      obtain ⟨⟨hv, hk⟩, h⟩ := ite_some h
      obtain ⟨j, h1, h⟩ := bindO h
      obtain ⟨ci, h2, h⟩ := bindO h
      obtain ⟨ce, h3, rfl⟩ := mapO' h
      have e0 : ex cs mk W (.set j ci ce) = fun δ => bnd (evS cs ce δ) fun p => if isPen p.2 j = true then bnd (evS cs ci p.2) fun q => bnd (penSet q.1 p.1) fun _ => ret (.next q.2) else bnd (ofO (ownAt p.2 j)) fun _ => bnd (evS cs ci p.2) fun q => ofO ((ownAt q.2 j).bind fun xs => (setAt xs q.1 p.1).map fun ys => .next (q.2.set j (some (.own ys)))) := by funext δ; simp only [ex]
      rw [e0]
      exact psd_setAt (hN h1) (vis _ hv) (okName_of hk) (snd h3).d (snd h2).d (swW _ _ (fun _ _ z => by cases z) _ _) (noSw' _ _ (fun _ _ _ z => by cases z) (fun _ _ z => by cases z) _) (subAssign h2 _)
    · -- x += e
      rename_i x px op e pos
      obtain ⟨⟨hl, hop⟩, h⟩ := ite_some h
      obtain ⟨i, h1, h⟩ := bindO h
      obtain ⟨ce, h2, rfl⟩ := mapO' h
      have e0 : ex cs mk W (.aug i op ce) = fun δ => bnd (ofO ((vw [] δ)[i]?).join) fun x => bnd (evS cs ce δ) fun p => ofO ((augD op x p.1).bind fun z => if i < p.2.length then some (.next (p.2.set i (some (.val z)))) else none) := by funext δ; simp only [ex]
      rw [e0]
      exact psd_aug o.nd (hN h1) (by rw [o.sc]; exact loc_of hl) (.inl (o.fnT x)) (snd h2).d hop
    · -- x.append(y.pop(e))
      rename_i x px m apos y py m2 apos2 e cpos2 cpos pos
      obtain ⟨⟨hv, hk, hv2, hk2, hm, hm2, hl, hl2⟩, hh⟩ := ite_some h
      clear h
      obtain ⟨i, h1, h⟩ := bindO hh
      obtain ⟨j, h2, h⟩ := bindO h
      obtain ⟨ce, h3, hc⟩ := mapO' h
      clear h hh
      subst hm hm2 hc
      have e0 : ex cs mk W (.popApp i j ce) = fun δ => bnd (ofO (ownAt δ i)) fun _ => bnd (ofO (ownAt δ j)) fun _ => bnd (evS cs ce δ) fun p => ofO (popAppD p.2 i j p.1) := by funext δ; simp only [ex]
      rw [e0]
      exact psd_popApp (hN h1) (vis _ hv) (okName_of hk) (hN h2) (vis _ hv2) (okName_of hk2) (snd h3).d (by rw [cE_star h3]; rfl) hl hl2
    · -- append, extend
      rename_i x px m apos e cpos pos _
      obtain ⟨⟨hv, hk, hl⟩, h⟩ := ite_some h
      obtain ⟨i, h1, h⟩ := bindO h
      obtain ⟨ce, h2, h⟩ := bindO h
      have hst : starEach [e] X.env = [(false, eval e X.env)] := by rw [cE_star h2]; rfl
      by_cases hm : m = "append"
      · rw [if_pos hm] at h
        have hc := Option.some.inj h
        clear h
        subst hm hc
        have e0 : ex cs mk W (.app i ce) = fun δ => bnd (ofO (ownAt δ i)) fun _ => bnd (evS cs ce δ) fun p => ofO ((ownAt p.2 i).bind fun xs => if xs.length < 16777216 then some (.next (p.2.set i (some (.own (xs ++ [p.1]))))) else none) := by funext δ; simp only [ex]
        rw [e0]
        exact psd_app (hN h1) (vis _ hv) (okName_of hk) (snd h2).d hst hl
      · rw [if_neg hm] at h
        obtain ⟨hm', hh⟩ := ite_some h
        have hc := Option.some.inj hh
        clear h hh hm
        subst hm' hc
        have e0 : ex cs mk W (.ext i ce) = fun δ => bnd (ofO (ownAt δ i)) fun _ => bnd (evS cs ce δ) fun p => ofO ((ownAt p.2 i).bind fun xs => (lstOf p.1).bind fun ys => if xs.length + ys.length ≤ 16777216 then some (.next (p.2.set i (some (.own (xs ++ ys))))) else none) := by funext δ; simp only [ex]
        rw [e0]
        exact psd_ext (hN h1) (vis _ hv) (okName_of hk) (snd h2).d hst hl
    · -- (x if t else y).append
      rename_i t x px y py p3 m apos e cpos pos
      obtain ⟨⟨hv, hk, hv2, hk2, hm, hl⟩, hh⟩ := ite_some h; clear h
      subst hm
      obtain ⟨i, h1, h⟩ := bindO hh
      obtain ⟨j, h1', h⟩ := bindO h
      obtain ⟨ct, h2, h⟩ := bindO h
      obtain ⟨ce, h3, rfl⟩ := mapO' h
      have e0 : ex cs mk W (.appIf ct i j ce) = fun δ => bnd (evTS cs ct δ) fun c => bnd (ofO (ownAt δ (if c = true then i else j))) fun _ => bnd (evS cs ce δ) fun p => ofO ((ownAt p.2 (if c = true then i else j)).bind fun xs => if xs.length < 16777216 then some (.next (p.2.set (if c = true then i else j) (some (.own (xs ++ [p.1]))))) else none) := by funext δ; simp only [ex]
      rw [e0]
      exact psd_appIf (snd h2).t (hN h1) (vis _ hv) (okName_of hk) (hN h1') (vis _ hv2) (okName_of hk2) (snd h3).d (by rw [cE_star h3]; rfl) hl
    · cases h
      have e0 : ex cs mk W .retN = fun _ => ret (.ret .non) := by funext δ; simp only [ex]
      rw [e0]; exact psd_retN
    · obtain ⟨ce, h1, rfl⟩ := mapO' h
      have e0 : ex cs mk W (.ret ce) = fun δ => bnd (evS cs ce δ) fun p => ret (.ret p.1) := by funext δ; simp only [ex]
      rw [e0]; exact psd_ret (snd h1).d
    · -- if
      obtain ⟨ct, h1, h⟩ := bindO h
      obtain ⟨ca, h2, h⟩ := bindO h
      obtain ⟨cb, h3, rfl⟩ := mapO' h
      have e0 : ex cs mk W (.ite ct ca cb) = fun δ => bnd (evTS cs ct δ) fun c => if c = true then exs cs mk W ca δ else exs cs mk W cb δ := by funext δ; simp only [ex]
      rw [e0]
      exact psd_if (snd h1).t (block_of ih h2) (block_of ih h3)
    · -- for
      rename_i tg it body pos
      obtain ⟨ci, h1, h⟩ := bindO h
      obtain ⟨t, h2, h⟩ := bindO h
      obtain ⟨cb, h3, rfl⟩ := mapO' h
      have e0 : ex cs mk W (.for_ t ci cb) = fFor cs t ci (exs cs mk W cb) := by funext δ; simp only [ex]; rfl
      rw [e0]
      have hg : PG X tg (tG X.K g t) := (pg_of o.nd o.calm o.tg _ _ (by rw [o.n]; exact h2)).1
      have hb := block_of (W := W) (mk := mk) (cs := cs) (g := g) (E := E) (X := X) ih h3
      rcases cI_cases h1 with hr | ⟨p, a, pos0, ca, rfl, hf, hgl, h4, rfl⟩ | ⟨p, a, b, pos0, ca, cb', rfl, hf, hgl, h4, h5, rfl⟩
      · exact psd_for o.po o.calm (cI_snd o.toXOk (fun e c h => (snd h).d) h1) hr hg hb (fun x => cI_fold h1 _ x)
      · exact psd_forR1 o.po o.calm (gl_of o.sc hgl) (o.wf.free _ hf) (snd h4).d (by rw [cE_star h4]; rfl) hg hb
      · exact psd_forR2 o.po o.calm (gl_of o.sc hgl) (o.wf.free _ hf) (snd h4).d (snd h5).d (by rw [cE_star h4, cE_star h5]; rfl) (by rw [cE_star h5]; rfl) hg hb
    · -- while
      obtain ⟨ct, h1, h⟩ := bindO h
      obtain ⟨cb, h3, rfl⟩ := mapO' h
      have e0 : ex cs mk W (.whl ct cb) = fun δ => whlGo (evTS cs ct) (exs cs mk W cb) W δ := by funext δ; simp only [ex]
      rw [e0]
      exact psd_while o.po (snd h1).t (block_of ih h3)
    · cases h
      have e0 : ex cs mk W .pass = fun δ => ret (.next δ) := by funext δ; simp only [ex]
      rw [e0]; exact psd_pass
    · cases h
      have e0 : ex cs mk W .cont = fun δ => ret (.cont δ) := by funext δ; simp only [ex]
      rw [e0]; exact psd_cont
    · cases h
      have e0 : ex cs mk W .brk = fun δ => ret (.brk δ) := by funext δ; simp only [ex]
      rw [e0]; exact psd_brk
    · -- raise
      rename_i x px a args p' pos
      obtain ⟨⟨h1, h2, h3⟩, h⟩ := ite_some h
      obtain ⟨l, h4, rfl⟩ := mapO' h
      have e0 : ex cs mk W (.rais x l) = fun δ => bnd (evs cs l (vw (mens l) δ)) fun ds => match mk x ds with
        | some fs => fun s => .exc x fs s
        | none => stuck := by funext δ; simp only [ex] <;> rfl
      rw [e0]
      exact o.rais _ _ _ _ _ _ l h1 h2 h3 h4
    · cases h
end
end Pur

/-! Pur16: the table of defs: each keeps its promise, by the depth of calls. -/
namespace Pur
open
    PySem PySem.Spec PyProof.Rows L2
/-- the compiled defs -/
abbrev Cd := Str → Option (List CSt)
/-- calls to a depth -/
def callN (T : Tx) (cd : Cd) (mk : MkE) (W : Nat) : Nat → CS
  | 0 => fun _ _ => stuck
  | n + 1 => fun x ds => match T.fn x with
    | none => stuck
    | some fn => match cd x with
      | none => stuck
      | some body => runFn (callN T cd mk W n) mk W fn.N.length body ds
def compFn (T : Tx) (fn : Fn) : Option (List CSt) := mapO (cS T fn.N fn.scope (mutN 40 fn.body) 40) fn.body
/-- a def's promise -/
def spF (K : PySem.W.Frag) (g : G) (ps : List Str) (f : List D → M D) : Sp := fun vs H Q E => ∃ F ds S, Same F H ∧ PenOk g F H S ∧ Reps K g F ds vs ∧ ds.length = ps.length ∧ Post K g E F H (f ds S) (RepD K g) Q
/-- one def, as the text has it -/
structure FnT (T : Tx) (K : PySem.W.Frag) (mg : Str → Option Value) (fn : Fn) : Prop where
  mg : mg fn.name = some (.ref (He.ga K fn.name))
  fd : ∃ (qual : Str) (params : Arguments) (fd : FuncData), FunD K fn.name qual params fn.body fn.scope [] [] (He.ga K fn.name) fd ∧ Binds K fd fn.ps [] ∧ ∀ ks ix, (fn.name, ks, ix) ∈ T.kws → KwB K fd fn.ps ks ix
  sc : FnScope fn.N fn.ps fn.scope
  le : fn.ps.length ≤ fn.N.length
/-- the whole text -/
structure Txt (T : Tx) (K : PySem.W.Frag) (mg : Str → Option Value) : Prop where
  fn : ∀ x fn, T.fn x = some fn → FnT T K mg fn
  free : ∀ x, T.free.contains x = true → mg x = none
  int : ∀ x i, T.cInt.lookup x = some i → ∃ t, mg x = some (.int i t)
  str : ∀ x i, T.cStr.lookup x = some i → ∃ t, mg x = some (.str i t)
  cls : ∀ x, T.clss.contains x = true → mg x = some (.ref (He.ga K x))
theorem Tx.fn_name {T : Tx} {x : Str} {fn : Fn} (h : T.fn x = some fn) : fn.name = x := by
  unfold Tx.fn at h
  have := List.find?_some h
  simpa using this
section
variable {T : Tx} {g : G} {cd : Cd} {mk : MkE} {W k0 : Nat} {P : Program} {w : World} {K : PySem.W.Frag} {mg : Str → Option Value} {base : Heap}
/-- raise statements are served within every def -/
def RaisAll (P : Program) (w : World) (K : PySem.W.Frag) (mg : Str → Option Value) (base : Heap) (T : Tx) (mk : MkE) (k0 : Nat) : Prop := ∀ (g : G) (cs : CS) (N : List Str) (sc : Scope) (E : XK) (k : Nat) (X : Cx), X.prog = P → X.w = w → X.K = K → X.mg = mg → X.base = base → k0 ≤ k → XOk T g cs N sc E k X → RaisOk T g cs mk N sc E X
theorem start_ss {N : List Str} {ds : List Pur.D} {vs : List V} {F H : Hp} {S : Pn} (fh : Same F H) (pn : PenOk g F H S) (r : Reps K g F ds vs) : SS K g F F H F H (L2.start N vs) (ds.map (fun d => some (Sl.val d)) ++ List.replicate (N.length - ds.length) none) S where
  fb := Same.refl F
  fw := Fwd.refl fh pn
  pa := ⟨_, pn.at_⟩
  len := by
    unfold L2.start
    simp [r.len]
  val := fun i d h => by
    unfold L2.start
    by_cases c : i < ds.length
    · rw [List.getElem?_append_left (by simpa using c), List.getElem?_map] at h
      cases e : ds[i]? with
      | none =>
            rw [e] at h; cases h
      | some d' =>
        rw [e] at h; cases h
        obtain ⟨v, hv, rv⟩ := r.get e
        refine ⟨v, ?_, rv⟩
        rw [List.getElem?_append_left (by rw [List.length_map, r.len]; exact c), List.getElem?_map, hv]
        rfl
    · rw [List.getElem?_append_right (by simpa using c)] at h
      have := List.mem_of_getElem? h
      simp at this
  own := fun i xs h => by
    have := List.mem_of_getElem? h
    simp at this
  dis := fun i j xs ys a hij h => by
    have := List.mem_of_getElem? h
    simp at this
theorem runFn_ok {X : Cx} {cs : CS} {E : XK} {fn : Fn} {body : List CSt} {ds : List Pur.D} {vs : List V} {F H : Hp} {S : Pn} {Q : VK} (fh : Same F H) (pn : PenOk g F H S) (r : Reps X.K g F ds vs)
    (p : Post X.K g E F H (runFn cs mk W fn.N.length body ds S) (RepD X.K g) Q) : tSt X.K g E (exs cs mk W body) { nx := fun _ H' => Q .non H', rt := Q } (L2.start fn.N vs) H := by
  refine ⟨F, F, H, F, _, S, start_ss fh pn r, ?_⟩
  unfold runFn bnd at p
  cases z : exs cs mk W body (ds.map (fun d => some (Sl.val d)) ++ List.replicate (fn.N.length - ds.length) none) S with
  | stuck => rw [z] at p; exact p.elim
  | exc c fs S' => rw [z] at p; exact fun F' H' dx fv f e1 e2 => p F' H' dx fv f e1 e2
  | ok fl S' =>
    rw [z] at p
    cases fl with
    | next δ => exact fun F' H' σ s => p F' H' .non s.fw (by show Rep X.K g F' .non .non; simp only [Rep])
    | ret d => exact fun F' H' v f rv => p F' H' v f rv
    | brk δ => exact p.elim
    | cont δ => exact p.elim
theorem tab_ok (t : Txt T K mg) (hen : ∀ e, g.en = some e → EnOk K e) (hlam : T.lam = false) (hk : 1 ≤ k0) (hcd : ∀ x fn, T.fn x = some fn → ∀ body, cd x = some body → compFn T fn = some body) (hr : RaisAll P w K mg base T mk k0) : ∀ n x fn, T.fn x = some fn → ∃ fd, Binds K fd fn.ps [] ∧ (∀ ks ix, (x, ks, ix) ∈ T.kws → KwB K fd fn.ps ks ix) ∧
    FnOk P w K mg base (L2.CX P w) (k0 + n) (He.ga K x) fd fn.ps (spF K g fn.ps (callN T cd mk W n x))
  | 0, x, fn, h => by
    have ft := t.fn x fn h
    obtain ⟨q, pa, fd, F, b, kb⟩ := ft.fd
    have e := Tx.fn_name h
    rw [e] at kb
    exact ⟨fd, b, kb, fun vs H Q E ⟨F, ds, S, fh, pn, r, l, p⟩ => by rw [r.len]; exact l, fun A outer s H args us vs Q E hr e0 hb hv ⟨F, ds, S, fh, pn, r, l, p⟩ => p.elim⟩
  | n + 1, x, fn, h => by
    have ft := t.fn x fn h
    obtain ⟨q, pa, fd, F, b, kb⟩ := ft.fd
    have e := Tx.fn_name h
    rw [e] at F kb
    refine ⟨fd, b, kb, ?_⟩
    cases hb : cd x with
    | none =>
      refine ⟨fun vs H Q E ⟨F, ds, S, fh, pn, r, l, p⟩ => by rw [r.len]; exact l, fun A outer s H args us vs Q E hr e0 hb' hv ⟨F, ds, S, fh, pn, r, l, p⟩ => ?_⟩
      unfold callN at p
      simp only [h, hb] at p
      exact p.elim
    | some body =>
      have hc := hcd x fn h body hb
      have h1 : 1 ≤ k0 + n := Nat.le_trans hk (Nat.le_add_right _ _)
      refine F.ok (CX := L2.CX P w) (k := k0 + n) ft.sc (fun vs H Q E ⟨F, ds, S, fh, pn, r, l, p⟩ => by rw [r.len]; exact l) (fun cdv A outer s H vs Q E hroom hsp => ?_)
      obtain ⟨F0, ds, S, fh, pn, r, l, p⟩ := hsp
      have hwf : Wf T g (callN T cd mk W n) (k0 + n) P w K mg base := {
        fn := fun y fy hy => by
          obtain ⟨fd', b', kb', ok'⟩ := tab_ok t hen hlam hk hcd hr n y fy hy
          have ft' := t.fn y fy hy
          obtain ⟨_, _, _, F', _, _⟩ := ft'.fd
          rw [Tx.fn_name hy] at F'
          exact ⟨by have := ft'.mg; rw [Tx.fn_name hy] at this; exact this, F'.kp, fd', b', kb', ok'⟩
        free := t.free
        int := t.int
        str := t.str
        cls := t.cls }
      have o : XOk T g (callN T cd mk W n) fn.N fn.scope E (k0 + n) (cxOf (L2.CX P w) P w K mg base fn.N q fn.scope (He.ga K x) cdv A outer s H E) := {
        n := rfl
        sc := rfl
        nd := ft.sc.nd
        calm := rfl
        room := hroom
        room1 := hroom.mono h1
        tk := takes_of rfl rfl rfl rfl
        wf := hwf
        lam := fun z => by rw [hlam] at z; cases z
        en := hen }
      have O : DOk T g (callN T cd mk W n) mk fn.N fn.scope E (k0 + n) (cxOf (L2.CX P w) P w K mg base fn.N q fn.scope (He.ga K x) cdv A outer s H E) := {
        toXOk := o
        blk := by
          show (envOfC q fn.scope s.heap.objs.size (He.ga K x) cdv).blockKind = .function
          have hk : (envOfC q fn.scope s.heap.objs.size (He.ga K x) cdv).scope.kind = .function := ft.sc.kind
          unfold Env.blockKind
          rw [hk]; rfl
        fnT := fun _ => rfl
        po := passes_of rfl
        rais := hr g _ _ _ _ _ _ rfl rfl rfl rfl rfl (Nat.le_add_right _ _) o }
      refine ⟨_, block_of (W := W) (fun st c hst => sound_S O (mutN 40 fn.body) 40 st c hst) hc, ?_⟩
      refine runFn_ok (fn := fn) fh pn r ?_
      unfold callN at p
      simp only [h, hb] at p
      exact p
end
end Pur

/-! PurR: raise of an own error whose __init__ says super().__init__(..) and keeps its parameters. -/
namespace Pur
open
    PySem PySem.Spec PyProof.Rows L2

/-! ### the wrapper, called -/
section
variable
    {prog : Program} {w : World} {A : Around} {E : Value → Shared → Prop} {h : Heap} {g : Array GenState} {d : Drawn} {t : Nat} {os : OsState}
variable
    {nm q : Str} {C N : Addr} {bs bm : List Value} {hdct : Bool} {sn : List Str} {sub : List Value} {ab : Bool} {col : Option Bool} {dd : Option Addr} {k0 k1 k2 k3 k5 : Option Value}
abbrev mwO (x : Addr) : Obj := PySem.W.kxs_mw "ValueError.__init__" x
theorem call_mw {u e t0 : Addr} {rest : List Value} {Q : Value → Shared → Prop}
    (hC : h.get? C = some (excClassObj nm q C N bs bm hdct sn sub ab col dd k0 k1 k2 k3 k5 "ValueError.__new__")) (he : h.get? e = some (PySem.HandSPX.excO C t0)) (hu : h.get? u = some (mwO e)) (hrest : rest.length ≤ sizeLine)
    (hq : ∀ h' t1, (∀ b o, b ≠ e → h.get? b = some o → h'.get? b = some o) → h'.get? e = some (PySem.HandSPX.excO C t1) → Q .none ⟨h', g, d, t, os⟩) :
    wpAny
        (model prog w) A (call (.ref u) rest) Q E ⟨h, g, d, t, os⟩ := by
  refine
      wpAny_call (codeAny_of_tree ?_)
  show
      wpAny _ A.in1 (callAny (.ref u) ⟨rest, []⟩) _ _ _
  simp only [callAny]
  refine
      wpAny_bind (wpAny_load hu ?_)
  simp only [mwO, PySem.W.kxs_mw, show (Value.type "method-wrapper" == Value.type "method" || Value.type "method-wrapper" == Value.type "builtin_function_or_method" || Value.type "method-wrapper" == Value.type "method-wrapper") = true by decide, if_true]
  refine
      PySem.W.KFB.if_so (by decide) ?_
  refine wpAny_bind (PySem.W.check_bound_init F.excBase_ValueError.toExcCallFacts hC he rfl ?_)
  refine
      wpAny_bind (wpAny_pure (wpAny_pure ?_))
  refine ⟨Code.quiet_builtin _ (by decide +kernel), codeAny_builtin F.excBase_ValueError.initEntry ?_⟩
  rw [Around.under_plainId F.excBase_ValueError.init.plain _]
  exact PySem.W.exc_init_tree (cls := .ref C) (t0 := t0) (dv := none) (c2 := .none) (c3 := .none) (b4 := .bool false) he hrest fun h' a b c => hq h' _ a b
end

/-! ### the context of an __init__ that closes over __class__ -/
def cxI (CX : CXT) (P : Program) (w : World) (K : PySem.W.Frag) (mg : Str → Option Value) (base : Heap) (N : List Str) (qual : Str) (scope : Scope) (f cda cc : Addr) (A : Around) (outer : List Env) (s : Shared) (H : Hp) (E : XK) : Cx where
  prog := P
  w := w
  K := K
  mg := mg
  base := base
  A := A.deeper (PySem.W.ksEnv qual scope s.heap.objs.size f (.ref cda) cc)
  N := N
  s_0 := s
  H_0 := H
  env := PySem.W.ksEnv qual scope s.heap.objs.size f (.ref cda) cc
  outer := outer
  stack := PySem.W.ksEnv qual scope s.heap.objs.size f (.ref cda) cc :: outer
  ex := []
  calm := true
  fn := fun x => x != "__class__"
  pn := []
  xe := fun e s' => wpAny (model P w) (A.deeper (PySem.W.ksEnv qual scope s.heap.objs.size f (.ref cda) cc)) (leaving (PySem.W.ksEnv qual scope s.heap.objs.size f (.ref cda) cc) e) (fun _ s'' => CX outer H s E e s'') (fun e' s'' => CX outer H s E e' s'') s'

/-- names: the parameters, all local, __class__ free -/
structure IScope (N : List Str) (sc : Scope) : Prop where
  kind : sc.kind = .function
  co : sc.isCoroutine = false
  gen : sc.isGenerator = false
  nd : N.Nodup
  par : ∀ x ∈ N, sc.names.lookup x = some .local
  nocell
      : ∀ y ∈ sc.names, y.2 ≠ .cell
  free : ∀ y ∈ sc.names, y.2 = .free → y.1 = "__class__"
  cl : sc.names.lookup ("__class__" : Str) = some .free
  su : sc.names.lookup ("super" : Str) = some .globalImplicit
def iScopeB (N : List Str) (sc : Scope) : Bool := decide (sc.kind = .function) && (!sc.isCoroutine && (!sc.isGenerator && (decide N.Nodup && (N.all (fun x => decide (sc.names.lookup x = some .local)) && (sc.names.all (fun y => decide (y.2 ≠ .cell) && (decide (y.2 ≠ .free) || decide (y.1 = "__class__"))) && (decide (sc.names.lookup ("__class__" : Str) = some .free) && decide (sc.names.lookup ("super" : Str) = some .globalImplicit)))))))
theorem iScopeB_ok {N : List Str} {sc : Scope} (h : iScopeB N sc = true) : IScope N sc := by
  unfold iScopeB at h
  simp only [Bool.and_eq_true, decide_eq_true_eq, Bool.not_eq_true', List.all_eq_true, Bool.or_eq_true] at h
  obtain ⟨h1, h2, h3, h4, h5, h6, h7, h8⟩ := h
  exact ⟨h1, h2, h3, h4, h5, fun y hy => (h6 y hy).1, fun y hy e => (h6 y hy).2.resolve_left fun z => z e, h7, h8⟩

theorem rev_lookup {P : List Str} {us : List Value} (nd : P.Nodup) {i : Nat} {x : Str} {u : Value} (h : P[i]? = some x) (hu : us[i]? = some u) : (P.zip us).reverse.lookup x = some u := by
  have hm : (x, u) ∈ (P.zip us).reverse := by
    rw [List.mem_reverse]
    refine List.mem_of_getElem? (i := i) ?_
    rw [List.getElem?_zip_eq_some]
    exact ⟨h, hu⟩
  have un : ∀ v, (x, v) ∈ (P.zip us).reverse → v = u := fun v hv => by
    rw [List.mem_reverse] at hv
    obtain ⟨j, hj⟩ := List.getElem?_of_mem hv
    rw [List.getElem?_zip_eq_some] at hj
    have e : i = j := nodup_ix nd h hj.1
    subst e
    rw [hu] at hj
    exact (Option.some.inj hj.2).symm
  generalize (P.zip us).reverse = l at hm un
  induction l with
  | nil => cases hm
  | cons p l ih =>
    obtain ⟨y, v⟩ := p
    rw [List.lookup_cons]
    by_cases e : x = y
    · subst e
      simp only [beq_self_eq_true]
      rw [un v (List.mem_cons_self ..)]
    · have : (x == y) = false := by simpa using e
      rw [this]
      refine ih ?_ fun v hv => un v (List.mem_cons_of_mem _ hv)
      rcases List.mem_cons.mp hm with z | z
      · cases z; exact absurd rfl e
      · exact z

theorem inv_startI {CX : CXT} {P : Program} {w : World} {K : PySem.W.Frag} {mg : Str → Option Value} {base : Heap} {N : List Str} {qual : Str} {scope : Scope} {f cda cc : Addr} {A : Around} {outer : List Env} {s : Shared} {H : Hp} {E : XK} {us : List Value} {vs : List V} {h1 : Heap} {tk : Nat}
    {cv : Option Value} {ccl : Value} {cod : Option Addr} {csl : Array (Option Value)} (S : IScope N scope) (hd : A.handled = none) (e0 : Env0 P w K mg base A outer s H) (hl : vs.length = N.length) (r : Vals vs us)
    (hns : h1.Ns s.heap.objs.size (fun x => (N.zip us).reverse.lookup x)) (hk : ∀ b o, s.heap.get? b = some o → h1.get? b = some o) (hcell : K.lookup cc = some ⟨ccl, cod, .cell cv, csl⟩) :
    Inv (cxI CX P w K mg base N qual scope f cda cc A outer s H E) [] (L2.start N vs) H { s with heap := h1, toks := tk } := by
  have noA : ∀ b : Addr, b ∉ (cxI CX P w K mg base N qual scope f cda cc A outer s H E).ex := fun b z => absurd (show b ∈ ([] : List Addr) from z) (by simp)
  have cl : ∀ x c, (cxI CX P w K mg base N qual scope f cda cc A outer s H E).env.cells.lookup x = some c → x = "__class__" ∧ c = cc := fun x c h => by
    have h : ([("__class__", cc)] : List (Str × Addr)).lookup x = some c := h
    rw [List.lookup_cons] at h
    cases e : x == ("__class__" : Str) with
    | true => rw [e] at h; cases h; exact ⟨by simpa using e, rfl⟩
    | false => rw [e] at h; cases h
  have bc := e0.bs cc _ (e0.mod.kin cc _ hcell)
  refine ⟨⟨e0.mod, S.kind, rfl, rfl, Nat.le_refl _, fun y z c h1 h2 => (cl y c h1).1.trans (cl z c h2).1.symm, fun y hy => ?_, fun y c h1 h2 => ?_, fun _ => hd, Around.frames_deeper e0.frames, .inr ⟨rfl, rfl⟩, fun b z => absurd z (noA b), e0.bs, e0.bsz, fun b _ _ => noA b, fun b z => absurd z (noA b), e0.funs, e0.frf⟩,
    rfl, e0.bare, Un.kept hk, ⟨_, hns, fun i y v h1 h2 h3 => ?_⟩, fun y c h => ?_, e0.hok.fresh (Nat.le_refl _), fun y c h => ?_, fun p hp => absurd (show p ∈ ([] : List (Addr × Obj)) from hp) (by simp), e0.hok.kept hk, ?_⟩
  · have
        hy : scope.names.lookup y = some .cell ∨ scope.names.lookup y = some .free := hy
    rcases hy with hy | hy
    · exact
          absurd rfl (S.nocell _ (PySem.mem_of_lookup hy))
    · have := S.free _ (PySem.mem_of_lookup hy) rfl
      have e : y = "__class__" := this
      subst e
      exact ⟨cc, rfl⟩
  · have := (cl y c h2).1
    subst this
    exact absurd (show (("__class__" : Str) != "__class__") = true from h1) (by decide)
  · have
        hi : i < vs.length := by
      unfold L2.start at h2
      by_cases hi : i < vs.length
      · exact hi
      · rw
            [List.getElem?_append_right (by simpa using hi)] at h2
        rw
            [List.getElem?_replicate] at h2
        split at h2 <;> cases h2
    have
        ha : vs[i]? = some v := by
      unfold L2.start at h2
      rw
          [List.getElem?_append_left (by simpa using hi), List.getElem?_map] at h2
      cases e : vs[i]? with
      | none =>
            rw [e] at h2; cases h2
      | some a =>
            rw [e] at h2; cases h2; rfl
    obtain
        ⟨u, hu, rv⟩ := r.get ha
    have h1 : N[i]? = some y := h1
    exact ⟨u, rv, .inl ⟨S.par y (List.mem_of_getElem? h1), rev_lookup S.nd h1 hu⟩⟩
  · obtain ⟨e, ec⟩ := cl y c h
    subst ec
    exact ⟨cv, _, hk _ _ bc.1, rfl⟩
  · obtain ⟨e, ec⟩ := cl y c h
    subst ec
    exact bc.2
  · unfold L2.start
    show _ = N.length
    rw
        [List.length_append, List.length_map, List.length_replicate]
    omega
end Pur

/-! PurR2: the __init__ of an own error: super().__init__(..), self.f = f, ... -/
namespace Pur
open
    PySem PySem.Spec PyProof.Rows L2

/-! ### self.f = f, .. -/
def storesL (N : List Str) (sc : Scope) : List Stmt → Option (List (Nat × Str))
  | [] => some []
  | .Assign [.Attribute (.Name x _) f _] (.Name y _) _ :: r => if slotN N x = some 0 ∧ locN sc x = true ∧ okName x = true ∧ locN sc y = true ∧ okName y = true then (slotN N y).bind fun i => (storesL N sc r).map fun l => (i, f) :: l else none
  | _ => none
def tStores (K : PySem.W.Frag) : List (Nat × Str) → TS
  | [] => tNext
  | p :: r => tSeq (tOst K p.2 (tVar 0) (tVar p.1)) (tStores K r)
theorem vis_loc {sc : Scope} {x : Str} (h : locN sc x = true) : Vis sc x := by
  rcases loc_of h with h | h
  · exact .inl h
  · exact .inr (.inl h)
theorem pss_stores {X : Cx} : ∀ {sts : List Stmt} {l : List (Nat × Str)}, storesL X.N X.env.scope sts = some l → PSs X sts (tStores X.K l)
  | [], l, h => by
    simp only [storesL] at h
    cases h
    exact pss_nil
  | st :: sts, l, h => by
    unfold storesL at h
    split at h
    · rename_i heq; cases heq
    · rename_i x px f p' y py pos r heq
      cases heq
      obtain ⟨⟨h1, h2, h3, h4, h5⟩, h⟩ := ite_some h
      obtain ⟨i, h6, h⟩ := bindO h
      obtain ⟨l', h7, rfl⟩ := mapO' h
      exact pss_cons (ps_ost (pe_var (slot_at h1) (vis_loc h2) (okName_of h3).d (okName_of h3).c) (pe_var (slot_at h6) (vis_loc h4) (okName_of h5).d (okName_of h5).c)) (pss_stores h7)
    · cases h
/-- behind some stores: the error at a, its dict at d -/
structure Made (H H' : Hp) (a C d : Addr) (L : List (Str × V)) : Prop where
  obj : H' a = some (exo a C (some d))
  dct : H' d = some (exd d L)
  oth : ∀ b, b ≠ a → b ≠ d → H' b = H b
theorem stores_run {K : PySem.W.Frag} {D : Ends} {σ : L2.St} {H : Hp} {a C d : Addr} (T : OexC K C) (ne : d ≠ a) (h0 : σ[0]? = some (some (.ref a))) : ∀ {l : List (Nat × Str)} {ys : List V} {H' : Hp} {L : List (Str × V)}, Made H H' a C d L → mapO (fun p => (σ[p.1]?).join) l = some ys →
    (∀ p ∈ l, PySem.W.findIn K (.ref C) p.2 = some none) → L.length + l.length ≤ 900 → (∀ H'', Made H H'' a C d (((l.map (·.2)).zip ys).reverse ++ L) → D.nx σ H'') → tStores K l D σ H'
  | [], ys, H', L, m, e, _, _, q => by
    simp only [mapO] at e; cases e
    exact q H' m
  | p :: l, ys, H', L, m, e, hno, hl, q => by
    obtain ⟨i, f⟩ := p
    simp only [mapO] at e
    obtain ⟨y, e1, e⟩ := bindO e
    obtain ⟨ys', e2, rfl⟩ := mapO' e
    have hy : σ[i]? = some (some y) := by
      cases z : σ[i]? with
      | none => rw [z] at e1; cases e1
      | some w => rw [z] at e1; cases w with
        | none => cases e1
        | some w => cases e1; rfl
    have hl' : L.length + (l.length + 1) ≤ 900 := hl
    refine ⟨y, hy, .ref a, h0, a, C, rfl, T, hno _ (List.mem_cons_self ..), .inr ⟨d, L, m.obj, m.dct, by omega, ?_⟩⟩
    refine stores_run (H := H) (a := a) (C := C) (d := d) (L := (f, y) :: L) T ne h0 ⟨?_, ?_, ?_⟩ e2 (fun p hp => hno p (List.mem_cons_of_mem _ hp)) (by rw [List.length_cons]; omega) fun H'' m' => q H'' ?_
    · rw [upd_ne (Ne.symm ne)]; exact m.obj
    · exact upd_same
    · exact fun b h1 h2 => by rw [upd_ne h2]; exact m.oth b h1 h2
    · simpa using m'
theorem stores_run0 {K : PySem.W.Frag} {D : Ends} {σ : L2.St} {H : Hp} {a C : Addr} {l : List (Nat × Str)} {ys : List V} (T : OexC K C) (h0 : σ[0]? = some (some (.ref a))) (ha : H a = some (exo a C none)) (hne : l ≠ []) (e : mapO (fun p => (σ[p.1]?).join) l = some ys)
    (hno : ∀ p ∈ l, PySem.W.findIn K (.ref C) p.2 = some none) (hl : l.length ≤ 900) (q : ∀ d H'', H d = none → d ≠ a → Made H H'' a C d ((l.map (·.2)).zip ys).reverse → D.nx σ H'') : tStores K l D σ H := by
  cases l with
  | nil => exact absurd rfl hne
  | cons p l =>
    obtain ⟨i, f⟩ := p
    simp only [mapO] at e
    obtain ⟨y, e1, e⟩ := bindO e
    obtain ⟨ys', e2, rfl⟩ := mapO' e
    have hy : σ[i]? = some (some y) := by
      cases z : σ[i]? with
      | none => rw [z] at e1; cases e1
      | some w => rw [z] at e1; cases w with
        | none => cases e1
        | some w => cases e1; rfl
    have hl' : l.length + 1 ≤ 900 := hl
    refine ⟨y, hy, .ref a, h0, a, C, rfl, T, hno _ (List.mem_cons_self ..), .inl ⟨ha, fun d hd ne => ?_⟩⟩
    refine stores_run (H := H) (a := a) (C := C) (d := d) (L := [(f, y)]) T ne h0 ⟨upd_same, ?_, ?_⟩ e2 (fun p hp => hno p (List.mem_cons_of_mem _ hp)) (by rw [List.length_cons, List.length_nil]; omega) fun H'' m' => q d H'' hd ne ?_
    · rw [upd_ne ne]; exact upd_same
    · exact fun b h1 h2 => by rw [upd_ne h1, upd_ne h2]
    · simpa using m'

/-! ### the argument names -/
def argsL (N : List Str) (sc : Scope) : List Expr → Option (List Nat)
  | [] => some []
  | .Name y _ :: r => if locN sc y = true ∧ okName y = true then (slotN N y).bind fun i => (argsL N sc r).map fun l => i :: l else none
  | _ => none
def tVars : List Nat → TA
  | [] => tNil
  | i :: r => tCons (tVar i) (tVars r)
theorem pa_vars {X : Cx} : ∀ {es : List Expr} {l : List Nat}, argsL X.N X.env.scope es = some l → PA X es (tVars l)
  | [], l, h => by
    simp only [argsL] at h; cases h
    exact pa_nil
  | e :: es, l, h => by
    unfold argsL at h
    split at h
    · rename_i heq; cases heq
    · rename_i y py r heq
      cases heq
      obtain ⟨⟨h1, h2⟩, h⟩ := ite_some h
      obtain ⟨i, h3, h⟩ := bindO h
      obtain ⟨l', h4, rfl⟩ := mapO' h
      exact pa_cons (pe_var (slot_at h3) (vis_loc h1) (okName_of h2).d (okName_of h2).c) (pa_vars h4)
    · cases h
theorem tVars_run {σ : L2.St} {H : Hp} {Q : List V → Hp → Prop} : ∀ {l : List Nat} {ys : List V} {pre : List V}, mapO (fun i => (σ[i]?).join) l = some ys → Q (pre ++ ys) H → tVars l σ H fun vs H1 => Q (pre ++ vs) H1
  | [], ys, pre, e, q => by
    simp only [mapO] at e; cases e
    exact q
  | i :: l, ys, pre, e, q => by
    simp only [mapO] at e
    obtain ⟨y, e1, e⟩ := bindO e
    obtain ⟨ys', e2, rfl⟩ := mapO' e
    have hy : σ[i]? = some (some y) := by
      cases z : σ[i]? with
      | none => rw [z] at e1; cases e1
      | some w => rw [z] at e1; cases w with
        | none => cases e1
        | some w => cases e1; rfl
    have q' : Q ((pre ++ [y]) ++ ys') H := by simpa using q
    have := tVars_run (l := l) (pre := pre ++ [y]) e2 q'
    refine ⟨y, hy, ?_⟩
    simpa using this
end Pur

/-! PurR3: an own error's __init__, walked. -/
namespace Pur
open
    PySem PySem.Spec PyProof.Rows L2
/-- what the written part tells of the __init__ of the class at D: f its def, cda its code object, cc the cell of __class__ -/
structure SuK (P : Program) (K : PySem.W.Frag) (D cda cc : Addr) : Prop where
  code : ∃ o od vs file tf sl, K.lookup cda = some ⟨o, od, .fields vs, sl⟩ ∧ vs[2]? = some (.str file tf) ∧ ((P.main.file : Str) == file) = true
  cell : ∃ c od sl, K.lookup cc = some ⟨c, od, .cell (some (.ref D)), sl⟩
  cls : ∃ cd, PySem.W.clsIn K D = some cd
  sup : PySem.W.nsIn K mainGlobals "super" = some none
  st : PySem.W.nsIn K cStatics "thirdparty.any" = some none
  top : (P.main.scope.names.lookup ("super" : Str)).isSome = false
/-- what it tells of the class at C of which the error is, a class below D -/
structure ExK (K : PySem.W.Frag) (D C : Addr) (fs : List Str) : Prop where
  mro : PySem.W.mroIn K C (.ref D) = some true
  sup : PySem.W.ks_superIn K C D "__init__" = some (some (.builtin "ValueError.__init__"))
  ve : PySem.W.subIn K (.ref C) (.type "ValueError") = some true
  ox : OexC K C
  no : ∀ f ∈ fs, PySem.W.findIn K (.ref C) f = some none
/-- the promise: the parameters are kept as fields -/
def spI (K : PySem.W.Frag) (D : Addr) (fs : List Str) : Sp := fun vs H Q _ => ∃ (a C : Addr) (ws : List V), vs = .ref a :: ws ∧ ws.length = fs.length ∧ ExK K D C fs ∧ H a = some (exo a C none) ∧ ∀ d H', H d = none → d ≠ a → Made H H' a C d (fs.zip ws).reverse → Q .non H'
theorem start_get {N : List Str} {vs : List V} {i : Nat} (h : i < vs.length) : (L2.start N vs)[i]? = some (vs[i]?) := by
  unfold L2.start
  rw [List.getElem?_append_left (by simpa using h), List.getElem?_map, List.getElem?_eq_getElem h]
  rfl
theorem start_mapO {N : List Str} {x0 : V} {ws : List V} : ∀ {n k : Nat}, k + n = ws.length → mapO (fun i => ((L2.start N (x0 :: ws))[i]?).join) ((List.range n).map (k + 1 + ·)) = some (ws.drop k)
  | 0, k, h => by
    simp only [List.range_zero, List.map_nil, mapO]
    rw [List.drop_of_length_le (by omega)]
  | n + 1, k, h => by
    rw
        [List.range_succ_eq_map, List.map_cons, List.map_map]
    have e0 : ((L2.start N (x0 :: ws))[k + 1 + 0]?).join = ws[k]? := by
      rw [start_get (by rw [List.length_cons]; omega)]
      simp
    have hk : k < ws.length := by omega
    have ih := start_mapO (N := N) (x0 := x0) (ws := ws) (n := n) (k := k + 1) (by omega)
    have e1 : List.map ((fun x => k + 1 + x) ∘ Nat.succ) (List.range n) = (List.range n).map (k + 1 + 1 + ·) := by
      refine
          List.map_congr_left fun x _ => ?_
      show k + 1 + (x + 1) = k + 1 + 1 + x
      omega
    rw [e1]
    simp only [mapO]
    rw [e0, List.getElem?_eq_getElem hk]
    show (mapO _ _).map _ = _
    rw [ih, Option.map_some, List.drop_eq_getElem_cons hk]
section
variable {P : Program} {w : World} {K : PySem.W.Frag} {mg : Str → Option Value} {base : Heap} {CX : CXT} {f D cda cc : Addr} {name qual : Str} {params : Arguments} {scope : Scope} {dV kV doc pm ct oc : Value} {an od : Option Addr} {osl : Array (Option Value)}
  {N fs : List Str} {e : Expr} {es : List Expr} {rest : List Stmt} {p0 p1 apos cpos spos : Pos} {ar : Arg} {pl : Env → Sem Bool}
theorem init_ok (lk : K.lookup f = some ⟨oc, od, .func (PySem.W.ksFn name qual params (.Expr (.Call (.Attribute (.Call (.Name "super" p0) [] [] p1) "__init__" apos) (e :: es) [] cpos) spos :: rest) scope dV kV doc pm an (.ref cda) ct cc), osl⟩)
    (hcd : PySem.W.codeIn K (.ref cda) qual = true) (U : SuK P K D cda cc) (S : IScope N scope) (hN : N.length = fs.length + 1) (hf0 : fs ≠ []) (hlen : fs.length ≤ 900)
    (hp : (params.posonlyargs ++ params.args).head? = some ar) (hN0 : N[0]? = some ar.arg)
    (ha : argsL N scope (e :: es) = some ((List.range fs.length).map (0 + 1 + ·))) (hr0 : storesL N scope rest = some (((List.range fs.length).map (0 + 1 + ·)).zip fs)) (hmg : ∀ h : Heap, K.In h → h.Ns mainGlobals mg → mg "super" = none)
    (htree : ∀ env : Env, eval (.Call (.Attribute (.Call (.Name "super" p0) [] [] p1) "__init__" apos) (e :: es) [] cpos) env = (do
      let ov ← attributeBase (.Call (.Name "super" p0) [] [] p1) "__init__" env (eval (.Call (.Name "super" p0) [] [] p1) env)
      standAt apos.atName
      let (f, first) ← holding [ov] (getMethod ov "__init__" (pl env))
      callWith cpos f first (backTo cpos (starEach (e :: es) env)) [])) :
    FnOk P w K mg base CX 2 f (PySem.W.ksFn name qual params (.Expr (.Call (.Attribute (.Call (.Name "super" p0) [] [] p1) "__init__" apos) (e :: es) [] cpos) spos :: rest) scope dV kV doc pm an (.ref cda) ct cc) N (spI K D fs) := by
  refine ⟨fun vs H Q E ⟨a, C, ws, e1, e2, _⟩ => by rw [e1, hN, List.length_cons, e2], fun A outer s H args us vs Q E hr e0 hb r hsp => ?_⟩
  obtain ⟨a, C, ws, rfl, hwl, EX, hna, q⟩ := hsp
  have
      KX : K.In s.heap := e0.mod.kin.keeps fun b o e => (e0.bs b o e).1
  have
      lim : s.heap.NoLimit := e0.mod.nolimit.keeps fun b o e => (e0.bs b o e).1
  obtain ⟨ccl, cod, csl, hcell⟩ := U.cell
  obtain ⟨co, ccd, cvs, file, tf, ccs, hcode, hvs, hfile⟩ := U.code
  refine ks_codeAny_call_defAt (fd := PySem.W.ksFn name qual params (.Expr (.Call (.Attribute (.Call (.Name "super" p0) [] [] p1) "__init__" apos) (e :: es) [] cpos) spos :: rest) scope dV kV doc pm an (.ref cda) ct cc) hr.depth (KX _ _ lk) rfl lim (PySem.W.codeRec_of KX hcd) rfl hb S.nocell (fun y hy => S.par _ (List.of_mem_zip hy).1) (fun h1 hns hk => ?_) S.co S.gen S.kind
  have I : Inv (cxI CX P w K mg base N qual scope f cda cc A outer s H E) [] (L2.start N (.ref a :: ws)) H { s with heap := h1, toks := s.toks + (N.zip us).length } := inv_startI S hr.hd e0 (by rw [hN, List.length_cons, hwl]) r hns hk hcell
  generalize hX : cxI CX P w K mg base N qual scope f cda cc A outer s H E = X at I
  have xe : X.xe = fun e s' => wpAny (model P w) (A.deeper (PySem.W.ksEnv qual scope s.heap.objs.size f (.ref cda) cc)) (leaving (PySem.W.ksEnv qual scope s.heap.objs.size f (.ref cda) cc) e) (fun _ s'' => CX outer H s E e s'') (fun e' s'' => CX outer H s E e' s'') s' := by rw [← hX]; rfl
  have xA : X.A = A.deeper (PySem.W.ksEnv qual scope s.heap.objs.size f (.ref cda) cc) := by rw [← hX]; rfl
  have xenv : X.env = PySem.W.ksEnv qual scope s.heap.objs.size f (.ref cda) cc := by rw [← hX]; rfl
  have xP : X.prog = P := by rw [← hX]; rfl
  have xw : X.w = w := by rw [← hX]; rfl
  have xK : X.K = K := by rw [← hX]; rfl
  have xN : X.N = N := by rw [← hX]; rfl
  have xmg : X.mg = mg := by rw [← hX]; rfl
  have xs0 : X.s_0 = s := by rw [← hX]; rfl
  have xo : X.outer = outer := by rw [← hX]; rfl
  have xsc : X.env.scope = scope := by rw [xenv]
  have xH : X.H_0 = H := by rw [← hX]; rfl
  have goal : _root_.PySem.wpAt (model X.prog X.w) X.A (.func (.Expr (.Call (.Attribute (.Call (.Name "super" p0) [] [] p1) "__init__" apos) (e :: es) [] cpos) spos :: rest) X.env) (execs (.Expr (.Call (.Attribute (.Call (.Name "super" p0) [] [] p1) "__init__" apos) (e :: es) [] cpos) spos :: rest) X.env)
      (SP X [] { nx := fun _ H' => Q .non H', rt := Q }) X.xe { s with heap := h1, toks := s.toks + (N.zip us).length } := by
    have hint : interactive X.env = false := by
      have : X.env.scope.kind = .function := by rw [xsc]; exact S.kind
      simp [interactive, this]
    refine ks_wpAt_execs_cons (ks_wpAt_Expr_any (ks_wpAt_MethodCall (pl := pl X.env) ?_ (htree X.env)) hint rfl)
    generalize { s with heap := h1, toks := s.toks + (N.zip us).length } = s1 at I
    have K1 : X.K.In s1.heap := I.kIn
    rw [← xK] at EX hcell hcode lk
    obtain ⟨cdD, hD⟩ := U.cls
    rw [← xK] at hD
    obtain ⟨oD, hD1, hD2⟩ : ∃ oD, s1.heap.get? D = some oD ∧ oD.data = .cls cdD := by
      unfold PySem.W.clsIn at hD
      split at hD
      · rename_i c d cd' sl ho
        cases hD
        exact ⟨_, K1 _ _ ho, rfl⟩
      · cases hD
    obtain ⟨t1, hx⟩ := exo_at I.hok hna
    have kS : X.env.kindOf "super" = some .globalImplicit := by show X.env.scope.names.lookup _ = _; rw [xsc]; exact S.su
    have kC : X.env.kindOf "__class__" = some .free := by show X.env.scope.names.lookup _ = _; rw [xsc]; exact S.cl
    have kF : X.env.scope.kind = .function := by rw [xsc]; exact S.kind
    have kA : X.env.kindOf ar.arg = some .local := by show X.env.scope.names.lookup _ = _; rw [xsc]; exact S.par _ (List.mem_of_getElem? hN0)
    refine ks_wpAt_super_base (f := f) (cc := cda) (fd := PySem.W.ksFn name qual params (.Expr (.Call (.Attribute (.Call (.Name "super" p0) [] [] p1) "__init__" apos) (e :: es) [] cpos) spos :: rest) scope dV kV doc pm an (.ref cda) ct cc) kS kC rfl (by rw [xenv]) (K1 _ _ lk) rfl hp (by rw [xenv]) (K1 _ _ hcode) rfl hvs (by rw [xP]; exact hfile) (by rw [xP]; exact U.top) ?_
    obtain ⟨mb, b1, b2⟩ := I.mod.blt
    have hsup : X.mg "super" = none := by rw [xmg]; exact hmg _ e0.mod.kin e0.mod.glob
    refine PySem.W.ks_loadName_global kF kS (PySem.Calls.loadGlobal_builtin (by rw [I.ok.glob]; exact I.mod.glob.keeps I.bk) hsup (by rw [I.ok.blt]; exact b1.keeps I.bk) ((b2 _ (by decide)).trans (by first | rfl | kernel_rfl)) ⟨rfl, ?_⟩)
    refine wpAny_loadName_free kF kC (by rw [xenv]; rfl) ⟨_, K1 _ _ hcell, rfl⟩ ?_
    obtain
        ⟨m, hn, hl⟩ := id I.loc
    obtain ⟨u0, ru0, lk0⟩ := hl 0 ar.arg (.ref a) (by rw [xN]; exact hN0) (by rw [start_get (by simp)]; rfl) (.inl (by rw [xsc]; exact S.par _ (List.mem_of_getElem? hN0)))
    obtain rfl : u0 = Value.ref a := ru0
    have hma : m ar.arg = some (.ref a) := by
      rcases lk0 with ⟨_, h⟩ | ⟨h | h, _⟩
      · exact h
      · rw [kA] at h; cases h
      · rw [kA] at h; cases h
    refine wpAny_loadName_local kF kA hn hma ?_
    refine
        ks_wpAny_isType_cls hD1 hD2 ⟨rfl, ?_⟩
    obtain ⟨hh, g, d, t, os⟩ := s1
    refine ks_wpAny_call_super hD1 hD2 hx rfl (fun c z => by cases z) (PySem.W.looks_mroIn K1 EX.mro) (fun h2 hso k2 => ?_)
    have I2 : Inv X [] (L2.start N (.ref a :: ws)) H ⟨h2, g, d, t, os⟩ := I.kept k2
    obtain ⟨cdC, hcC⟩ : ∃ cdC, PySem.W.clsIn X.K C = some cdC := by
      cases z : PySem.W.clsIn X.K C with
      | some cd => exact ⟨cd, rfl⟩
      | none => have := EX.mro; unfold PySem.W.mroIn at this; rw [z] at this; cases this
    have hsu := EX.sup
    unfold PySem.W.ks_superIn at hsu
    rw [hcC] at hsu
    have J2 : PySem.W.InstAt h2 a { cls := .ref C, dict := none, data := .fields #[.ref t1, .none, .none, .none, .bool false, .none] } C none := ⟨k2 _ _ hx, rfl, rfl, trivial⟩
    have hI2 : PySem.W.Looks (model X.prog X.w) h2 (isInstance (.ref a) (.type "ValueError")) true := J2.type.andThen (PySem.W.looks_subIn I2.kIn EX.ve)
    refine PySem.W.kxs_getMethod PySem.W.kxs_ValueError hso (PySem.W.looks_opaque I2.kIn (by rw [xK]; exact U.st)) (l₀ := cdC.mro) (fun A Q E s k q => wpAny_bind ((PySem.W.looks_clsIn I2.kIn hcC) A _ E s k (wpAny_pure q))) rfl I2.kIn hsu hI2 (PySem.W.ks_ne I2.kIn J2 hcC) (by decide) ?_
    have he : starEach (e :: es) X.env = (false, eval e X.env) :: starEach es X.env := by
      cases e <;> first | rfl | (unfold argsL at ha; cases ha)
    have hst : ∀ {es : List Expr} {l : List Nat}, argsL N scope es = some l → (backTo cpos (starEach es X.env)).any (·.1) = false := by
      intro es
      induction es with
      | nil => intros; rfl
      | cons e es ih =>
        intro l h
        unfold argsL at h
        split at h
        · rename_i heq; cases heq
        · rename_i heq
          cases heq
          obtain ⟨_, h⟩ := ite_some h
          obtain ⟨i, _, h⟩ := bindO h
          obtain ⟨l', h4, _⟩ := mapO' h
          have := ih h4
          cases es with
          | nil => rfl
          | cons e2 es2 => exact this
        · cases h
    have hpl : (backTo cpos (starEach (e :: es) X.env)).any (·.1) = false := hst ha
    show wpAny _ _ (callWith cpos (.ref h2.objs.size) [] (backTo cpos (starEach (e :: es) X.env)) []) _ _ _
    refine PySem.W.kxs_callWith (i := "ValueError.__init__") (x := a) hpl ?_
    have k3 : ∀ b o, h2.get? b = some o → (h2.push (mwO a)).get? b = some o := fun b o z => Heap.get?_push_of_some _ z
    have I3 : Inv X [] (L2.start N (.ref a :: ws)) H ⟨h2.push (mwO a), g, d, t + 1, os⟩ := I2.kept k3
    have hmw : (h2.push (mwO a)).get? h2.objs.size = some (mwO a) := Heap.get?_push_size _ rfl
    have I4 : Inv X [(h2.objs.size, mwO a)] (L2.start N (.ref a :: ws)) H ⟨h2.push (mwO a), g, d, t + 1, os⟩ := I3.pins_of fun p hp => by
      rcases List.mem_singleton.mp hp with rfl
      exact ⟨hmw, I2.hok.fresh (Nat.le_refl _), fun z => absurd I2.lt (by rw [← z]; exact Nat.lt_irrefl _), I2.nofs (Nat.le_refl _), fun v z => by cases z⟩
    have PAx := pa_vars (X := X) (es := e :: es) (by rw [xN, xsc]; exact ha)
    have vals := start_mapO (N := N) (x0 := .ref a) (ws := ws) (n := fs.length) (k := 0) (by omega)
    rw [List.drop_zero] at vals
    have run := PAx.run cpos [(h2.objs.size, mwO a)] _ _ H (fun vs H1 => vs = ws ∧ H1 = H) I4 (by
      have := tVars_run (Q := fun vs H1 => vs = ws ∧ H1 = H) (pre := []) vals ⟨rfl, rfl⟩
      simpa using this)
    have fin : wpAny (model X.prog X.w) X.A (evalArgs (.ref h2.objs.size) true (backTo cpos (starEach (e :: es) X.env)) []) (fun ar s₁ => PySem.W.KxsAt "ValueError.__init__" h2.objs.size a s₁.heap ∧ wpAny (model X.prog X.w) X.A (call (.ref h2.objs.size) ([] ++ ar.pos) ar.kw)
        (fun _ s' => _root_.PySem.wpAt (model X.prog X.w) X.A (.func (.Expr (.Call (.Attribute (.Call (.Name "super" p0) [] [] p1) "__init__" apos) (e :: es) [] cpos) spos :: rest) X.env) (execs rest X.env) (SP X [] { nx := fun _ H' => Q .non H', rt := Q }) X.xe s') X.xe s₁) X.xe ⟨h2.push (mwO a), g, d, t + 1, os⟩ := by
      rw [he] at run ⊢
      refine PySem.Calls.evalArgs_plain (thn run fun us5 s5 ⟨vs5, H5, I5, r5, e5, e5'⟩ => ?_)
      subst e5 e5'
      obtain ⟨hu5, _⟩ := I5.pin (h2.objs.size, mwO a) (List.mem_append_right _ (List.mem_singleton_self _))
      refine ⟨hu5, ?_⟩
      obtain ⟨nm, qn, N', bs, bm, sn, sub, ab, col, dd, k0, k1, k2', k3', k5, hC, hbm⟩ := EX.ox.cls
      obtain ⟨t5, hx5⟩ := exo_at I5.hok hna
      obtain ⟨h5, g5, d5, tk5, os5⟩ := s5
      have hsz : us5.length ≤ sizeLine := by
        rw [← Paired.length r5, sizeLine_eq, hwl]
        omega
      show wpAny _ _ (call (.ref h2.objs.size) us5) _ _ _
      refine call_mw (I5.kIn _ _ hC) hx5 hu5 hsz fun h6 t6 k6 hx6 => ?_
      have J := I5.write (t' := tk5) (x := a) (e := a) (o := exo a C none) (by rw [hna]; exact True.intro) (.inl rfl) k6 ⟨_, hx6⟩ (exo_ok hx6)
      have eu : upd H5 a (exo a C none) = H5 := by
        funext b
        by_cases hb : b = a
        · rw [hb, upd_same, hna]
        · rw [upd_ne hb]
      rw [eu] at J
      have J0 : Inv X [] (L2.start N (.ref a :: vs5)) H5 ⟨h6, g5, d5, tk5, os5⟩ := J.pins_of fun p hp => by cases hp
      refine wpAt_of_wpAny ((pss_stores (X := X) (sts := rest) (by rw [xN, xsc]; exact hr0)).run [] _ _ H5 _ J0 ?_)
      have hmap : ∀ (l : List Nat) (fs : List Str), l.length = fs.length → (l.zip fs).map (·.2) = fs ∧ mapO (fun p : Nat × Str => ((L2.start N (.ref a :: vs5))[p.1]?).join) (l.zip fs) = mapO (fun i => ((L2.start N (.ref a :: vs5))[i]?).join) l := by
        intro l
        induction l with
        | nil => intro fs h; cases fs with
          | nil => exact ⟨rfl, rfl⟩
          | cons _ _ => cases h
        | cons i l ih => intro fs h; cases fs with
          | nil => cases h
          | cons x fs =>
            obtain ⟨h1, h2⟩ := ih fs (by simpa using h)
            refine ⟨by simp [List.zip_cons_cons, h1], ?_⟩
            rw [List.zip_cons_cons]
            simp only [mapO]
            rw [h2]
      obtain ⟨m1, m2⟩ := hmap ((List.range fs.length).map (0 + 1 + ·)) fs (by simp)
      refine stores_run0 EX.ox (by rw [start_get (by simp)]; rfl) hna (fun z => ?_) (m2.trans vals) (fun p hp => EX.no _ (List.of_mem_zip hp).2) (by rw [List.length_zip]; omega) fun d' H'' n1 n2 md => ?_
      · have := congrArg List.length z
        simp only [List.length_zip, List.length_map, List.length_range, Nat.min_self, List.length_nil] at this
        exact hf0 (List.length_eq_zero_iff.mp this)
      · rw [m1] at md
        exact q d' H'' n1 n2 md
    exact fin
  subst hX
  refine ks_wpAt_mono goal (fun fl s' hs => ?_) fun e s' hs => hs
  have fin : ∀ {σ' : L2.St} {H' : Hp} {v : V} {u : Value}, Inv (cxI CX P w K mg base N qual scope f cda cc A outer s H E) [] σ' H' s' → RelV v u → Q v H' → L2.CE outer P w H s Q u s' :=
    fun
        {σ' H' v u} J rv q => ⟨v, H', J.os, J.bare, J.base, J.hok, rv, q⟩
  cases fl with
  | ret u =>
    obtain
        ⟨v, σ', H', J, rv, q⟩ := hs
    exact fin J rv q
  | next =>
    obtain ⟨σ', H', J, q⟩ := hs
    exact
        fin (v := V.non) (u := Value.none) J rfl q
  | brk =>
    obtain ⟨_, _, _, q⟩ := hs
    exact False.elim q
  | cont =>
    obtain ⟨_, _, _, q⟩ := hs
    exact False.elim q
end
end Pur

/-! PurR4: the raise statement of own errors. -/
namespace Pur
open
    PySem PySem.Spec PyProof.Rows L2
/-- own errors: a class, its fields -/
abbrev Ei := List (Str × List Str)
def mkOf (ei : Ei) : MkE := fun x ds => (ei.lookup x).bind fun fs => if fs.length = ds.length ∧ ds ≠ [] then some (fs.zip ds).reverse else none
/-- what is known of an own error's class x: over P, K -/
structure ErrK (P : Program) (w : World) (K : PySem.W.Frag) (mg : Str → Option Value) (base : Heap) (x : Str) (fs : List Str) : Prop where
  ex : ∃ (D fI : Addr) (fd : FuncData) (N : List Str), ExK K D (He.ga K x) fs ∧ PySem.W.findIn K (.ref (He.ga K x)) "__init__" = some (some (.ref fI)) ∧ PySem.W.typeIn K (.ref fI) = some (.type "function") ∧ Binds K fd N [] ∧ N.length = fs.length + 1 ∧
    ∀ CX : CXT, FnOk P w K mg base CX 2 fI fd N (spI K D fs)
  ne : fs ≠ []
  few : fs.length ≤ 900
  mg : mg x = some (.ref (He.ga K x))
theorem repF_zip {K : PySem.W.Frag} {g : G} {F : Hp} : ∀ {fs : List Str} {ds : List Pur.D} {vs : List V}, Reps K g F ds vs → RepF K g F (fs.zip ds) (fs.zip vs)
  | [], ds, vs, h => by simp only [List.zip_nil_left, RepF]
  | f :: fs, [], vs, h => by
    simp only [Reps] at h
    subst h
    simp only [List.zip_nil_right, RepF]
  | f :: fs, d :: ds, vs, h => by
    simp only [Reps] at h
    obtain ⟨v, r, rfl, q, t⟩ := h
    rw [List.zip_cons_cons, List.zip_cons_cons]
    simp only [RepF]
    exact ⟨v, _, rfl, q, repF_zip t⟩
theorem repF_app {K : PySem.W.Frag} {g : G} {F : Hp} : ∀ {a b : List (Str × Pur.D)} {va vb : List (Str × V)}, RepF K g F a va → RepF K g F b vb → RepF K g F (a ++ b) (va ++ vb)
  | [], b, va, vb, h, k => by simp only [RepF] at h; subst h; exact k
  | (x, d) :: a, b, va, vb, h, k => by
    simp only [RepF] at h
    obtain ⟨v, r, rfl, q, t⟩ := h
    show RepF K g F ((x, d) :: (a ++ b)) ((x, v) :: (r ++ vb))
    simp only [RepF]
    exact ⟨v, _, rfl, q, repF_app t k⟩
theorem repF_rev {K : PySem.W.Frag} {g : G} {F : Hp} : ∀ {a : List (Str × Pur.D)} {va : List (Str × V)}, RepF K g F a va → RepF K g F a.reverse va.reverse
  | [], va, h => by simp only [RepF] at h; subst h; simp only [List.reverse_nil, RepF]
  | (x, d) :: a, va, h => by
    simp only [RepF] at h
    obtain ⟨v, r, rfl, q, t⟩ := h
    rw
        [List.reverse_cons, List.reverse_cons]
    refine repF_app (repF_rev t) ?_
    simp only [RepF]
    exact ⟨v, [], rfl, q, rfl⟩
theorem repF_mono {K : PySem.W.Frag} {g : G} {F F' : Hp} (s : Same F F') {a : List (Str × Pur.D)} {va : List (Str × V)} (h : RepF K g F a va) : RepF K g F' a va := RepF.mono s a va h
section
variable {P : Program} {w : World} {K : PySem.W.Frag} {mg : Str → Option Value} {base : Heap} {T : Tx} {ei : Ei} {k0 : Nat}
theorem rais_all (h3 : 3 ≤ k0) (hT : ∀ x, T.errs.contains x = true → ∃ fs, ei.lookup x = some fs) (hE : ∀ x fs, ei.lookup x = some fs → ErrK P w K mg base x fs) : RaisAll P w K mg base T (mkOf ei) k0 := by
  intro g cs N sc E k X eP ew eK emg eb hk o x a args p p' pos l hc hg hok hm
  subst eP ew eK emg eb
  have hd : (x == ("__debug__" : Str)) = false := (okName_of hok).d
  obtain ⟨c0, hc0, hm'⟩ : ∃ c0, cE T N 40 sc a = some c0 ∧ ∃ l', mapO (cE T N 40 sc) args = some l' ∧ l = c0 :: l' := by
    simp only [mapO] at hm
    obtain ⟨c0, h1, h2⟩ := bindO hm
    obtain ⟨l', h3, rfl⟩ := mapO' h2
    exact ⟨c0, h1, l', h3, rfl⟩
  obtain ⟨l', hm2, hl'⟩ := hm'
  have hst := cE_star hc0 args X.env
  have hpl := mapO_star hm2 X.env p'
  have PDx : PDs X g E (a :: args) (evs cs l) := mapO_pds (fun e c h => (sound_E 40 sc e c h X E o).d) hm
  obtain ⟨fs, hx⟩ := hT x hc
  · obtain ⟨⟨D, fI, fd, NI, EX, iC, tI, hb, hNl, FO⟩, hne, hfew, hmg⟩ := hE x fs hx
    have gl : Gl X x := gl_of o.sc hg
    refine PS.weak (ps_raise o.calm o.tk (pmk_oex (CX := L2.CX X.prog X.w) (k := 2) (dvs := []) (ds := []) EX.ox iC tI (FO _) (o.room.mono (by omega)) hb .nil (fun pins σ H s e s' I c => ?_) gl hmg PDx hd hst hpl)) fun D' σ H q => ?_
    · obtain ⟨_, _, _, _, _, _, _, _, _, _, _, _, z⟩ := c
      exact z.elim
    · obtain ⟨Fb, F0, H0, F, δ, S, ss, pp⟩ := q
      refine ⟨_, _, S, ss.stt (mens l), ?_⟩
      have pp : PostS X.K g E Fb F0 H0 (bnd (evs cs l (vw (mens l) δ)) (fun ds => match mkOf ei x ds with
          | some fs => fun s => Rs.exc x fs s
          | none => stuck) S) D' := pp
      unfold bnd at pp
      cases z : evs cs l (vw (mens l) δ) S with
      | stuck => rw [z] at pp; exact pp.elim
      | exc c fs' S' =>
        rw [z] at pp
        exact fun F' H' dx fv f e1 e2 => pp F' H' dx fv ((ss.fwd0 (mens l)).trans f) e1 e2
      | ok ds S' =>
        rw [z] at pp
        intro F1 H1 vs f1 r1
        have r1 : Reps X.K g F1 ds vs := r1
        have hmk : mkOf ei x ds = if fs.length = ds.length ∧ ds ≠ [] then some (fs.zip ds).reverse else none := by
          unfold mkOf; rw [hx]; rfl
        simp only [hmk] at pp
        by_cases cnd : fs.length = ds.length ∧ ds ≠ []
        · rw [if_pos cnd] at pp
          have hlv := r1.len
          have hll := evs_len z
          refine ⟨?_, fun b hb' => ?_⟩
          · omega
          · refine ⟨b, He.ga X.K x, vs, by simp, by omega, EX, upd_same, fun d H' hd' ne md => ⟨rfl, d, _, md.obj, md.dct, ?_, ?_⟩⟩
            · rw [upd_ne ne] at hd'; exact hd'
            · have hd1 : H1 d = none := by rw [upd_ne ne] at hd'; exact hd'
              have eu : upd (del H' b) d (.xd (fs.zip vs).reverse) = upd H1 d (.xd (fs.zip vs).reverse) := by
                funext c
                by_cases hcd : c = d
                · rw [hcd, upd_same, upd_same]
                · rw [upd_ne hcd, upd_ne hcd]
                  by_cases hcb : c = b
                  · rw [hcb, del_same, hb']
                  · rw [del_ne hcb, md.oth c hcb hcd, upd_ne hcb]
              rw [eu]
              exact pp F1 _ d _ (((ss.fwd0 (mens l)).trans f1).trans (Fwd.newO f1.fh f1.pn hd1)) upd_same (repF_rev (repF_zip r1))
        · rw [if_neg cnd] at pp
          exact pp.elim
end
end Pur

/-! PurT: try: .. except C as e: ..: the error that is caught stands in the heap from then on. -/
namespace Pur
open
    PySem PySem.Spec PyProof.Rows L2
theorem exF_ok {P : Program} {w : World} {H : Hp} {h : Heap} {a : Addr} {oe : Obj} (e : h.get? a = some oe) : ObjOk P w H h a (exF a oe) := ⟨e, ⟨_, e⟩, fun h1 h2 z k => k _ z⟩
theorem exF_own {a x : Addr} {oe : Obj} : exF a oe ≠ .own x := fun z => by
  have
      z' : HO.ext _ = HO.own x := z
  cases z'
theorem exF_tbl {a : Addr} {oe : Obj} {ps : Array Value} : exF a oe ≠ .tbl ps := fun z => by
  have
      z' : HO.ext _ = HO.tbl ps := z
  cases z'
theorem exF_tup {a : Addr} {oe : Obj} {vs : List V} : exF a oe ≠ .tup vs := fun z => by
  have z' : HO.ext _ = HO.tup vs := z
  cases z'
/-- an object that is new since the entry is tracked from now on -/
theorem adopt {X : Cx} {pins : List (Addr × Obj)} {σ : L2.St} {H : Hp} {s : Shared} {a : Addr} {oe : Obj} {vs : Array Value} (I : L2.Inv X pins σ H s) (ha : s.heap.get? a = some oe) (hd : oe.data = .fields vs) (na : H a = none) (n0 : X.s_0.heap.get? a = none) (nL : a ≠ X.env.locals)
    (np : ∀ p ∈ X.pn ++ pins, p.1 ≠ a) : L2.Inv X pins σ (upd H a (exF a oe)) s where
  ok := I.ok
  os := I.os
  bare := I.bare
  base := {
    keep := I.base.keep
    slot := I.base.slot
    free := fun b o e n hx => by
      rw [upd_ne (fun z => by rw [z, n0] at e; cases e)]
      exact I.base.free b o e n hx
    there := I.base.there
    tups := fun b xs e => by
      have := I.base.tups b xs e
      rw [upd_ne (ne_of_none this na)]; exact this
    frzs := fun b o v e => by
      have := I.base.frzs b o v e
      rw [upd_ne (ne_of_none this na)]; exact this
    tbls := fun b ps e => by
      obtain ⟨m, this⟩ := I.base.tbls b ps e
      exact ⟨m, by rw [upd_ne (ne_of_none this na)]; exact this⟩ }
  loc := I.loc
  cell := I.cell
  free := by rw [upd_ne (Ne.symm nL)]; exact I.free
  freeC := fun x c e => by
    rw [upd_ne]
    · exact I.freeC x c e
    · intro z
      subst z
      obtain ⟨v, o, ho, hc⟩ := I.cell x _ e
      rw [ha] at ho
      cases ho
      rw [hd] at hc; cases hc
  pin := fun p hp => by
    obtain ⟨h1, h2, h3, h4, h5⟩ := I.pin p hp
    exact ⟨h1, by rw [upd_ne (np p hp)]; exact h2, h3, h4, h5⟩
  hok := fun b o e => by
    by_cases hb : b = a
    · subst hb
      rw [upd_same] at e
      cases e
      exact exF_ok ha
    · rw [upd_ne hb] at e
      exact (I.hok b o e).stay (fun c v _ z => z) (fun c hc => by rw [upd_ne (ne_of_none hc na)]; exact hc) fun c xs hc => by rw [upd_ne (ne_of_none hc na)]; exact hc
  len := I.len
/-- what the clause wishes of an exception of the body -/
def wAx (K : PySem.W.Frag) (nN : Nat) (c : Value) (i : Nat) (ts : TS) (Wout : WX) (D : Ends) : WX := fun cls d σ H =>
  ∃ b, PySem.W.exmOne K cls c = some b ∧ (b = true → σ.length = nN → ∀ a oe, H a = none → Zc cls d oe → (∃ vs, oe.data = .fields vs) →
      ts { nx := fun σ' H' => D.nx (σ'.set i none) H', rt := D.rt, bk := fun σ' H' => D.bk (σ'.set i none) H', ct := fun σ' H' => D.ct (σ'.set i none) H' } (σ.set i (some (.ref a))) (upd H a (exF a oe))) ∧
    (b = false → Wout cls d σ H)
section
variable {X : Cx} {x n : Str} {c : Value} {i : Nat} {body suite : List Stmt} {b₀ : Stmt} {np pos pos' : Pos} {tb : WX → TS} {ts : TS} {Wout : WX}
theorem ps_try_ext (hs : X.stack = X.env :: X.outer) (hf : X.env.frame = some X.env.locals) (hex : X.ex = []) (hN : X.N.Nodup) (hi : X.N[i]? = some n) (hln : X.env.kindOf n = some .local) (hc : Names X x c) (tk : Takes X Wout)
    (hb
        : ∀ (W : WX) (pn : List (Addr × Obj)) (xe : Value → Shared → Prop), Takes (X.tr pn xe) W → PassesOwn (model X.prog X.w) X.A X.env xe → PSs (X.tr pn xe) body (tb W))
    (hsu : ∀ (a : Addr) (pn : List (Addr × Obj)), PSs (X.suite a pn) (b₀ :: suite) ts) :
    PS X (.Try body [.ExceptHandler (some (.Name x np)) (some n) (b₀ :: suite) pos'] [] [] pos) (fun D σ H => tb (wAx X.K X.N.length c i ts Wout D) D σ H) := by
  refine
      ⟨fun pins s σ H D I h => ?_⟩
  have ok := I.ok
  have
      hfr : X.A.frames = some (X.env :: X.outer) := by rw [ok.frames, hs]
  have
      hloc : Loc X.env.scope n := .inl hln
  refine wpAny_Try_except ?_
  refine wpAny_mono ((hb (wAx X.K X.N.length c i ts Wout D) (X.pn ++ pins) (fun e s₁ => wpAny (model X.prog X.w) X.A (noteFrame e X.env) (fun _ s₂ => wpAny (model X.prog X.w) X.A (setFlight e none) (fun _ s₃ =>
    wpAny
        (model X.prog X.w) X.A (handleBy e X.env [.ExceptHandler (some (.Name x np)) (some n) (b₀ :: suite) pos']) (SP X pins D) X.xe s₃) X.xe s₂) X.xe s₁) (fun u s' xx => ?_) PassesOwn.looking).run [] s σ H D (I.toTry _) h) (fun f s1 hsp => ?_) (fun e s1 he => he)
  · -- the catch
    obtain
        ⟨a, B, sI, pins', σ', H', cls, d, rfl, J', nb, up, sky, na, os, ag, b, hb1, hyes, hno⟩ := xx
    have J : L2.Inv X pins σ' H' sI := J'.ofTry ok
    have
        sky' : Sky B (X.env :: X.outer) a (Zc cls d) X.env.locals s'.heap := by rw [← hs]; exact sky
    show
        wpAny (model X.prog X.w) X.A (noteFrame (.ref a) X.env) _ _ _
    refine
        Sky.land Zc.steady hfr hf sky' fun h3 fl3 up3 => ?_
    have J3 : L2.Inv X pins σ' H' { s' with heap := h3 } := J.landed nb fl3.1 (up.trans up3) os ag
    obtain
        ⟨oe3, vs3, he3, hz3, hd3⟩ := fl3.there
    have
        notFr : ∀ {h : Heap} {o : Obj} {vs : Array Value}, h.FunFrames B (X.env :: X.outer) → h.get? a = some o → o.data = .fields vs → a ∉ frs (X.env :: X.outer) := fun {h o vs} ff e dd hm => by
      obtain
          ⟨_, o', e', hnf⟩ := ff.mem hm
      rw [e] at e'; cases e'
      exact hnf _ dd
    have
        nfr := notFr fl3.2.2.1 he3 hd3
    have
        nL : a ≠ X.env.locals := fun z => nfr (List.mem_filterMap.mpr ⟨X.env, List.mem_cons_self, by rw [hf, z]⟩)
    have
        nF : a ∉ X.fs := fun hm => by
      obtain
          ⟨e, he, q⟩ := List.mem_filterMap.mp hm
      exact
          nfr (List.mem_filterMap.mpr ⟨e, List.mem_cons_of_mem _ he, q⟩)
    have nI : sI.heap.get? a = none := by
      cases z : sI.heap.get? a with
      | none => rfl
      | some o =>
        have q := nb a o z (by rw [hs]; exact nfr)
        rw [fl3.2.1] at q; cases q
    have
        n0 : X.s_0.heap.get? a = none := by
      cases z : X.s_0.heap.get? a with
      | none => rfl
      | some o =>
        obtain ⟨o', q⟩ := J.base.there a o z (by rw [hex]; simp)
        rw [nI] at q; cases q
    have npn : ∀ p ∈ X.pn ++ pins, p.1 ≠ a := fun p hp z => by
      have := (J.pin p hp).1
      rw [z, nI] at this; cases this
    have
        S3 := J3.suite he3 hd3 na nL nF
    refine
        wpAny_handleBy_cons (codeAny_handlers_test ?_) (by intro q; cases q)
    have
        LT : PySem.W.Looks (model X.prog X.w) h3 (typeOf (.ref a)) cls := fun A Q E s k q => wpAny_typeOf_ref (k _ _ he3) (by rw [hz3.1]; exact q)
    have
        LM := PySem.W.exm_one (M := model X.prog X.w) (J3.kIn) LT hb1
    have
        test : ∀ {Q : Value → Shared → Prop} {E : Value → Shared → Prop}, Q c { s' with heap := h3 } → wpAny (model X.prog X.w) (X.A.mark (some (.ref a))) (eval (.Name x np) X.env) Q E { s' with heap := h3 } := fun {Q E} q => by
      obtain
          ⟨hg, hdbg, hm | ⟨hm, hv, hnn⟩⟩ := hc
      · exact
            ld_glob (X := X.suite a ((a, oe3) :: (X.pn ++ pins))) S3 hg hm q hdbg
      · exact
            ld_blt (X := X.suite a ((a, oe3) :: (X.pn ++ pins))) S3 hg hm hv q hnn hdbg
    refine test (LM.here ?_)
    cases b with
    | true =>
      refine
          codeAny_handlers_suite_as ?_
      refine
          HandSPX.lands_againZ fl3 fun h4 fl4 up4 => ?_
      have J4 : L2.Inv X pins σ' H' { s' with heap := h4 } := J.landed nb fl4.1 ((up.trans up3).trans up4) os ag
      obtain
          ⟨oe4, vs4, he4, hz4, hd4⟩ := fl4.there
      have J5 := adopt J4 he4 hd4 na n0 nL npn
      have S4 : L2.Inv (X.suite a (X.pn ++ pins)) [] σ' (upd H' a (exF a oe4)) { s' with heap := h4 } :=
        ⟨ok.suite _ _, J5.os, J5.bare, J5.base, J5.loc, J5.cell, J5.free, J5.freeC, fun p hp => J5.pin p (by rw [List.append_nil] at hp; exact hp), J5.hok, J5.len⟩
      refine store_ok (X := X.suite a (X.pn ++ pins)) (v := .ref a) S4 hN hi hloc rfl (fun s5 S5 => ?_) (.inr hln)
      refine wpAny_mono ((hsu a (X.pn ++ pins)).run [] s5 _ _ _ S5 (hyes rfl J.len a oe4 na hz4 ⟨_, hd4⟩)) (fun f s6 hsp => ?_) (fun _ _ z => False.elim z)
      have end_ : ∀ {σ6 : L2.St} {H6 : Hp} {Q : Shared → Prop}, L2.Inv (X.suite a (X.pn ++ pins)) [] σ6 H6 s6 → (∀ s7, L2.Inv X pins (σ6.set i none) H6 s7 → Q s7) →
          wpAny (model X.prog X.w) X.A (do bindName X.env n .none; unbindBehindTheSuite X.env n pos') (fun _ s7 => Q s7) X.xe s6 := fun {σ6 H6 Q} S6 hq => by
        have U6 : L2.Inv X pins σ6 H6 s6 := ⟨ok, S6.os, S6.bare, S6.base, S6.loc, S6.cell, S6.free, S6.freeC, fun p hp => S6.pin p (List.mem_append_left _ hp), S6.hok, S6.len⟩
        exact gone_ok U6 hN hi hln hq
      cases f with
      | next =>
        obtain
            ⟨σ6, H6, S6, q6⟩ := hsp
        exact
            end_ S6 fun s7 J7 => ⟨_, _, J7, q6⟩
      | brk =>
        obtain
            ⟨σ6, H6, S6, q6⟩ := hsp
        exact
            end_ S6 fun s7 J7 => ⟨_, _, J7, q6⟩
      | cont =>
        obtain
            ⟨σ6, H6, S6, q6⟩ := hsp
        exact
            end_ S6 fun s7 J7 => ⟨_, _, J7, q6⟩
      | ret u =>
        obtain
            ⟨v6, σ6, H6, S6, r6, q6⟩ := hsp
        exact
            end_ S6 fun s7 J7 => ⟨_, _, _, J7, r6, q6⟩
    | false =>
      show
          wpAny _ X.A (handleBy (.ref a) X.env []) _ _ _
      refine wpAny_handleBy_nil ?_
      obtain
          ⟨k1, k2, k3, oe, vs, T, oT, ts', he, hz, hd, h1, hr⟩ := id fl3
      unfold PySem.passOn
      refine
          wpAny_bind (wpAny_field he hd h1 ?_)
      rw
          [if_neg (show ¬ ((Value.ref T == Value.none) = true) from by simp)]
      have
          fin : wpAny (model X.prog X.w) X.A (setFlight (.ref a) X.env.frame) (fun _ s4 => wpAny (model X.prog X.w) X.A (throw (.ref a) : Sem Flow) (SP X pins D) X.xe s4) X.xe { s' with heap := h3 } := by
        rw [hf]
        refine
            HandSPX.setFlight_upZ fl3 fun h4 hh4 up4 => wpAny_throw (tk _ _ ?_)
        exact
            ⟨a, B, sI, pins, σ', H', cls, d, rfl, J, nb, (up.trans up3).trans up4, .inr (.inr (by rw [hs]; exact hh4)), na, os, ag, hno rfl⟩
      first
        | exact
              wpAny_bind (wpAny_pure (wpAny_bind fin))
        | exact wpAny_bind fin
  · cases f with
    | next =>
      obtain ⟨σ', H', J', q⟩ := hsp
      exact
          wpAny_execs_nil ⟨σ', H', J'.ofTry ok, q⟩
    | brk =>
      obtain ⟨σ', H', J', q⟩ := hsp
      exact
          ⟨σ', H', J'.ofTry ok, q⟩
    | cont =>
      obtain ⟨σ', H', J', q⟩ := hsp
      exact
          ⟨σ', H', J'.ofTry ok, q⟩
    | ret u =>
      obtain
          ⟨v, σ', H', J', r, q⟩ := hsp
      exact
          ⟨v, σ', H', J'.ofTry ok, r, q⟩
end
end Pur

/-! PurV: _law_heard, as all the laws have it. -/
namespace Pur
open
    PySem PySem.Spec PyProof.Rows L2
def heardHk : List (Str × Str × List Str) := [("BadModel", "model", ["part"]), ("BadHouse", "house", ["part"]), ("BadTelling", "telling", ["part"]), ("BadAsk", "ask", ["part"]), ("BadNumber", "number", ["part"]), ("BadPaper", "paper", ["part"]), ("BadValue", "value", ["part"]), ("Misfit", "misfit", ["part"]), ("NoName", "noname", ["name"]), ("BadText", "text", ["line", "word"]), ("BadCommand", "command", ["word"]), ("TooMany", "many", ["what", "most"])]
def heardCl : List Str := ["BadModel", "BadHouse", "BadTelling", "BadAsk", "BadNumber", "BadPaper", "BadValue", "Misfit", "NoName", "BadText", "BadCommand", "TooMany"]
def heardIs (c : Str) : List (Str × Bool) := heardCl.map fun x => (x, x == c)
def heardN : List Str := ["ask", "caught", "found", "error", "kinds", "words", "word", "is_so"]
def heardT : Tx := { fns := [], clss := heardCl, cInt := [], cStr := [], free := ["isinstance", "len"] }
def isC (x : Str) : CE := .bi .isi [.var 1, .const (.cls x)]
def kindC (w x : Str) : CE := .tup [.const (.str w), isC x]
def heardC0 : CSt := .asg (.t [.v 1, .v 2]) (.tup [.const .non, .const .non])
def heardC (own : List Nat) : List CSt := [
  .ite (.isN (.var 1)) [.ret (.lst [.var 2])] [],
  .asg (.v 4) (.lst [kindC "model" "BadModel", kindC "house" "BadHouse", kindC "telling" "BadTelling", kindC "ask" "BadAsk"]),
  .asg (.v 4) (.bin .Add (.var 4) (.lst [kindC "number" "BadNumber", kindC "paper" "BadPaper", kindC "value" "BadValue", kindC "misfit" "Misfit"])),
  .asg (.v 5) (.lc own (.t [.v 6, .v 7]) (.iVal (.var 4)) [.var 7] (.var 6)),
  .ite (.cmp .Eq (.bi .len [.var 5]) (.const (.int 1))) [.ret (.tup [.ix (.var 5) (.const (.int 0)), .att (.var 1) "part"])] [],
  .ite (isC "NoName") [.ret (.tup [.const (.str "noname"), .att (.var 1) "name"])] [],
  .ite (isC "BadText") [.ret (.tup [.const (.str "text"), .att (.var 1) "line", .att (.var 1) "word"])] [],
  .ite (isC "BadCommand") [.ret (.tup [.const (.str "command"), .att (.var 1) "word"])] [],
  .ret (.ite (isC "TooMany") (.tup [.const (.str "many"), .att (.var 1) "what", .att (.var 1) "most"]) (.tup [.const (.str "other")]))]
/-- the slots where the error is known -/
def errEv (c : Str) (w : Str × List Str) (vs : List V) : Ev := [none, some (.val (.exn (heardIs c) (w.2.zip vs))), none, none, none, none, none, none]
theorem heard_err {cs : CS} {mk : MkE} {W : Nat} {S : Pn} {c : Str} {w : Str × List Str} {vs : List V} (h : heardHk.lookup c = some w) (hl : vs.length = w.2.length) :
    exs cs mk W (heardC [6, 7]) (errEv c w vs) S = .ok (.ret (.tup (.str w.1 :: vs.map D.raw))) S := by
  have one : ∀ {w : Str} {f : Str} {vs : List V}, vs.length = ((w, [f]) : Str × List Str).2.length → ∃ v, vs = [v] := fun {w f vs} h => by
    match vs, h with
    | [v], _ => exact ⟨v, rfl⟩
  have two : ∀ {w : Str} {f f' : Str} {vs : List V}, vs.length = ((w, [f, f']) : Str × List Str).2.length → ∃ v v', vs = [v, v'] := fun {w f f' vs} h => by
    match vs, h with
    | [v, v'], _ => exact ⟨v, v', rfl⟩
  unfold heardHk at h
  repeat' (rcases look_cons h with ⟨rfl, rfl⟩ | h)
  all_goals first
    | (cases h; done)
    | (obtain ⟨v, rfl⟩ := one hl; kernel_rfl)
    | (obtain ⟨v, v', rfl⟩ := two hl; kernel_rfl)
theorem heard_fine {cs : CS} {mk : MkE} {W : Nat} {S : Pn} {own : List Nat} {x : Option Sl} {d : D} {r : Ev} : exs cs mk W (heardC own) (x :: some (.val .non) :: some (.val d) :: r) S = .ok (.ret (.lst [d])) S := by
  simp only [heardC, exs, ex, evTS, men, bnd, ev, ofO, ret]
  simp [vw, truD, isNon, ofO, ret, bnd, stuck, exs, ex, evS, men, ev, evs, mens]
end Pur

/-! PurV2: _law_heard keeps its promise. -/
namespace Pur
open
    PySem PySem.Spec PyProof.Rows L2
/-- what the written part tells of an error's class c that is heard -/
structure HeK (K : PySem.W.Frag) (c : Str) (w : Str × List Str) : Prop where
  ec : ExcC K (He.ga K c)
  x : XfC K (He.ga K c)
  is : ∀ C b, (heardIs c).lookup C = some b → PySem.W.kitOne K (.ref (He.ga K c)) (.ref (He.ga K C)) = some b
  no : ∀ f ∈ w.2, PySem.W.findIn K (.ref (He.ga K c)) f = some none
  ex : PySem.W.exmOne K (.ref (He.ga K c)) (.ref (He.ga K "WhomError")) = some true
theorem zip_lookup {fs : List Str} {fv : List (Str × V)} {vs : List V} (h : mapO (fun x => fv.lookup x) fs = some vs) : ∀ f v, (fs.zip vs).lookup f = some v → f ∈ fs ∧ fv.lookup f = some v := by
  induction fs generalizing vs with
  | nil => intro f v e; cases e
  | cons x fs ih =>
    simp only [mapO] at h
    obtain ⟨y, h1, h2⟩ := bindO h
    obtain ⟨ys, h3, rfl⟩ := mapO' h2
    intro f v e
    rw [List.zip_cons_cons] at e
    rcases look_cons e with ⟨rfl, rfl⟩ | e
    · exact ⟨List.mem_cons_self .., h1⟩
    · obtain ⟨i1, i2⟩ := ih h3 f v e
      exact ⟨List.mem_cons_of_mem _ i1, i2⟩
/-- with the held error forgotten -/
theorem PenOk.forget {g : G} {e : En} {F H : Hp} {S : Pn} (hg : g.en = none) (p : PenOk { g with en := some e } F H S) : PenOk g F H S := ⟨p.fr, p.at_, p.cs, p.tb, p.nt, fun e he => by rw [hg] at he; cases he⟩
theorem Fwd.forget {g : G} {e : En} {F H F' H' : Hp} {S : Pn} (hg : g.en = none) (f : Fwd { g with en := some e } F H F' H' S) : Fwd g F H F' H' S := ⟨f.ff, f.fh, f.hh, f.hf, f.pn.forget hg⟩
theorem raws {K : PySem.W.Frag} {g : G} {F : Hp} : ∀ {vs ws : List V}, Reps K g F (vs.map D.raw) ws → ws = vs
  | [], ws, h => by simp only [List.map_nil, Reps] at h; exact h
  | v :: vs, ws, h => by
    simp only [List.map_cons, Reps, Rep] at h
    obtain ⟨u, r, rfl, rfl, t⟩ := h
    rw [raws t]
section
variable {X : Cx} {g : G} {gA : Addr} {cdv : Value} {q : Str} {sg : Scope} {st1 : Stmt} {rest : List Stmt} {p1 p2 p3 p4 p5 p6 p7 np pos pos' : Pos}
theorem heard_gives (hgn : g.en = none) (h0 : cS heardT heardN sg [] 40 st1 = some heardC0) (hr : mapO (cS heardT heardN sg [] 40) rest = some (heardC [6, 7])) (hk : sg.kind = .function) (lc : sg.names.lookup ("caught" : Str) = some .local) (lf : sg.names.lookup ("found" : Str) = some .local) (le : sg.names.lookup ("error" : Str) = some .local)
    (lw : sg.names.lookup ("WhomError" : Str) = some .globalImplicit) (mw : X.mg "WhomError" = some (.ref (He.ga X.K "WhomError"))) (mc : ∀ x, heardCl.contains x = true → X.mg x = some (.ref (He.ga X.K x))) (mi : X.mg "isinstance" = none) (ml : X.mg "len" = none) (room : Room 2 X.A)
    (HK : ∀ c w, heardHk.lookup c = some w → HeK X.K c w) :
    LamX.GivesTo X heardN "_law_heard" sg gA cdv (st1 :: .Try [.Assign [.Name "found" p1] (.Call (.Name "ask" p2) [] [] p3) p4] [.ExceptHandler (some (.Name "WhomError" np)) (some "error") [.Assign [.Name "caught" p5] (.Name "error" p6) p7] pos'] [] [] pos :: rest) "ask" q (TTh X.K g heardHk) := by
  intro f c' s H Q tl act hc h
  obtain ⟨F, S, fh, pn, ht⟩ := h
  generalize hZ : (cxOf C8.CX0 X.prog X.w X.K X.mg X.base heardN "_law_heard" sg gA cdv X.A X.stack s H C8.E0).nox = Z
  have zK : Z.K = X.K := by rw [← hZ]; rfl
  have zN : Z.N = heardN := by rw [← hZ]; rfl
  have zsc : Z.env.scope = sg := by rw [← hZ]; rfl
  have nd : heardN.Nodup := by decide +kernel
  have O : ∀ g', (∀ e, g'.en = some e → EnOk Z.K e) → DOk heardT g' (fun _ _ => stuck) (fun _ _ => none) heardN sg (fun _ _ _ => False) 1 Z := fun g' he => {
    n := zN
    sc := zsc
    nd := by rw [zN]; exact nd
    calm := by rw [← hZ]; rfl
    room := by rw [← hZ]; exact room.deeper _
    room1 := by rw [← hZ]; exact room.deeper _
    tk := LamX.takes0
    wf := {
      fn := fun x fn h => by cases h
      free := fun x hx => by
        rw [← hZ]
        show X.mg x = none
        have : x = "isinstance" ∨ x = "len" := by
          have hx : (["isinstance", "len"] : List Str).contains x = true := hx
          simpa using hx
        rcases this with rfl | rfl
        · exact mi
        · exact ml
      int := fun x i h => by cases h
      str := fun x i h => by cases h
      cls := fun x hx => by rw [← hZ]; exact mc x hx }
    lam := fun h => by cases h
    en := he
    blk := by
      have : Z.env.scope.kind = .function := by rw [zsc]; exact hk
      unfold Env.blockKind
      rw [this]; rfl
    fnT := fun x => by rw [← hZ]; rfl
    po := by rw [← hZ]; exact PassesOwn.never
    rais := fun x a args p p' pos l hx => by cases hx }
  have O0 := O g fun e he => by rw [hgn] at he; cases he
  have s1 : PSD Z g (fun _ _ _ => False) st1 (ex (fun _ _ => stuck) (fun _ _ => none) 0 heardC0) := sound_S O0 [] 40 st1 heardC0 h0
  have s3 : PSs Z rest (fun D σ H => ∃ g', (∀ e, g'.en = some e → EnOk Z.K e) ∧ tSt Z.K g' (fun _ _ _ => False) (exs (fun _ _ => stuck) (fun _ _ => none) 0 (heardC [6, 7])) D σ H) :=
    ⟨fun pins s σ H D I ⟨g', he, hq⟩ => (block_of (fun st c h => sound_S (O g' he) [] 40 st c h) hr).run pins s σ H D I hq⟩
  have hi : ∀ {i : Nat} {x : Str}, heardN[i]? = some x → Z.N[i]? = some x := fun h => by rw [zN]; exact h
  have kL : ∀ {x : Str}, sg.names.lookup x = some .local → Z.env.kindOf x = some .local := fun {x} h => by show Z.env.scope.names.lookup x = _; rw [zsc]; exact h
  have s2 := ps_try_ext (X := Z) (x := "WhomError") (n := "error") (c := .ref (He.ga X.K "WhomError")) (i := 3) (np := np) (pos := pos) (pos' := pos') (Wout := fun _ _ _ _ => False)
    (body := [.Assign [.Name "found" p1] (.Call (.Name "ask" p2) [] [] p3) p4]) (b₀ := .Assign [.Name "caught" p5] (.Name "error" p6) p7) (suite := [])
    (tb := fun W D σ H => ∃ (Ech : XK) (Qv : VK), (∀ cls d σ' H', Ech cls d H' → W cls d σ' H') ∧ (∀ v H1, Qv v H1 → D.nx (σ.set 2 (some v)) H1) ∧ σ[0]? = some (some (.ref f)) ∧ H c' = some (LamX.CodeO c' q) ∧ tl Ech H Qv)
    (ts := fun D σ H => ∃ v, σ[3]? = some (some v) ∧ D.nx (σ.set 1 (some v)) H)
    (by rw [← hZ]; rfl) (by rw [← hZ]; rfl) (by rw [← hZ]; rfl) (by rw [zN]; exact nd) (hi rfl) (kL le) ⟨by show Z.env.scope.names.lookup _ = _; rw [zsc]; exact lw, by decide, .inl (by rw [← hZ]; exact mw)⟩ LamX.takes0
    (fun W pn xe tk _ => ⟨fun pins s' σ H' D I h' => by
      obtain ⟨Ech, Qv, hW, hm, h1, h2, h3⟩ := h'
      have hp0 := act W pn xe Ech p2 p3 (by rw [← hZ] at tk; exact tk) hW
      have hp : PE ((cxOf C8.CX0 X.prog X.w X.K X.mg X.base heardN "_law_heard" sg gA cdv X.A X.stack s H C8.E0).tr pn xe) (.Call (.Name "ask" p2) [] [] p3) (fun σZ HZ Q => ∃ Qv : VK, (∀ v H1, Qv v H1 → Q v H1) ∧ σZ[0]? = some (some (.ref f)) ∧ HZ c' = some (LamX.CodeO c' q) ∧ tl Ech HZ Qv) :=
        ⟨fun pins s σ H Q I ⟨Qv, m, h⟩ => thn (hp0.run pins s σ H Qv I h) fun u s1 ⟨v, H1, I1, r, q⟩ => ⟨v, H1, I1, r, m _ _ q⟩⟩
      have ps := ps_set (pos := p4) (pos' := p1) (i := 2) (x := "found") (by show heardN.Nodup; exact nd) (by rfl) (.inl lf) hp rfl (.inr lf)
      have pss := pss_one ps
      rw [← hZ] at I ⊢
      refine pss.run pins s' σ H' D I ?_
      exact ⟨Qv, hm, h1, h2, h3⟩⟩)
    (fun a pn => ⟨fun pins s' σ H' D I h' => by
      have ps := pss_one (ps_set (X := Z.suite a pn) (pos := p7) (pos' := p5) (i := 1) (x := "caught") (by show Z.N.Nodup; rw [zN]; exact nd) (hi rfl) (.inl (kL lc)) (pe_var (X := Z.suite a pn) (pos := p6) (i := 3) (hi rfl) (.inl (kL le))) rfl (.inr (kL lc)))
      exact ps.run pins s' σ H' D I h'⟩)
  refine ⟨_, pss_cons s1 (pss_cons s2 s3), ?_⟩
  -- the state at the entry
  have ss0 : SS Z.K g F F H F H (L2.start heardN [.ref f]) [some (.val (.raw (.ref f))), none, none, none, none, none, none, none] S := by
    have := start_ss (K := Z.K) (g := g) (N := heardN) (ds := [.raw (.ref f)]) (vs := [.ref f]) fh pn (by simp only [Reps, Rep]; exact ⟨_, _, rfl, rfl, rfl⟩)
    exact this
  refine ⟨F, F, H, F, _, S, ss0, ?_⟩
  have e1 : ex (fun _ _ => stuck) (fun _ _ => none) 0 heardC0 [some (.val (.raw (.ref f))), none, none, none, none, none, none, none] S = .ok (.next [some (.val (.raw (.ref f))), some (.val .non), some (.val .non), none, none, none, none, none]) S := by kernel_rfl
  rw [e1]
  intro F1 H1 σ1 ss1
  have f1 := ss1.fw
  obtain ⟨v0, hv0, rv0⟩ := ss1.val 0 _ rfl
  simp only [Rep] at rv0
  subst rv0
  have npa : c' ≠ g.pa := fun z => by
    rw [z, pn.at_] at hc
    have := Option.some.inj hc
    unfold LamX.CodeO at this
    cases this
  have hc1 : H1 c' = some (LamX.CodeO c' q) := f1.hh c' _ hc npa fun ps z => LamX.codeO_ne ps z
  refine ⟨_, _, ?_, ?_, hv0, hc1, ht F1 H1 f1⟩
  · -- an error is caught
    rintro cls d σ2 H2 ⟨c, dx, fv, F2, S2, w, vs, rfl, rfl, hdx, f2, hw, hvs, hq⟩
    have hk := HK c w hw
    refine ⟨true, by rw [zK]; exact hk.ex, fun _ hlen a oe na hz hf => ?_, fun z => by cases z⟩
    have hl8 : σ2.length = 8 := by rw [zN] at hlen; exact hlen
    refine ⟨.ref a, by rw [List.getElem?_set_self (by omega)], ?_⟩
    -- the held error
    generalize hE : (⟨a, oe, dx, c, heardIs c, w.2.zip vs, fv⟩ : En) = e
    have hEn : EnOk Z.K e := by
      subst hE
      rw [zK]
      exact ⟨hz, hf, hk.ec, hk.x, hk.is, fun f v hfv => by
        obtain ⟨i1, i2⟩ := zip_lookup hvs f v hfv
        exact ⟨hk.no f i1, i2⟩⟩
    refine ⟨{ g with en := some e }, fun e' he' => by cases he'; exact hEn, ?_⟩
    have neD : dx ≠ a := fun z => by rw [z, na] at hdx; cases hdx
    have nF2 : F2 a = none := by
      cases z : F2 a with
      | none => rfl
      | some o => have := f2.fh a o z; rw [na] at this; cases this
    have nPa : g.pa ≠ a := fun z => by have := f2.pn.at_; rw [z, na] at this; cases this
    have nPd : g.pa ≠ dx := fun z => by
      have := f2.pn.at_
      rw [z, hdx] at this; cases this
    have nca : g.ca ≠ a := fun z => by have := f2.fh _ _ f2.pn.cs; rw [z, na] at this; cases this
    have ncd : g.ca ≠ dx := fun z => by have := f2.fh _ _ f2.pn.cs; rw [z, hdx] at this; cases this
    -- the frozen part with the error
    have sF : Same F2 (upd (upd F2 dx (.xd fv)) a (exF a oe)) := fun b o hb => by
      rw [upd_ne (ne_of_none hb nF2)]
      by_cases hbd : b = dx
      · subst hbd
        rw [upd_same]
        have := f2.fh _ _ hb
        rw [hdx] at this; exact this
      · rw [upd_ne hbd]; exact hb
    have sH : Same (upd (upd F2 dx (.xd fv)) a (exF a oe)) (upd H2 a (exF a oe)) := fun b o hb => by
      by_cases hba : b = a
      · subst hba; rw [upd_same] at hb ⊢; exact hb
      · rw [upd_ne hba] at hb ⊢
        by_cases hbd : b = dx
        · subst hbd; rw [upd_same] at hb; rw [← hb]; exact hdx
        · rw [upd_ne hbd] at hb; exact f2.fh b o hb
    have pnE : PenOk { g with en := some e } (upd (upd F2 dx (.xd fv)) a (exF a oe)) (upd H2 a (exF a oe)) S2 := {
      fr := by
        show upd (upd F2 dx (.xd fv)) a (exF a oe) g.pa = none
        rw [upd_ne nPa, upd_ne nPd]; exact f2.pn.fr
      at_ := by
        show upd H2 a (exF a oe) g.pa = _
        rw [upd_ne nPa]; exact f2.pn.at_
      cs := by
        show upd (upd F2 dx (.xd fv)) a (exF a oe) g.ca = _
        rw [upd_ne nca, upd_ne ncd]; exact f2.pn.cs
      tb := tabs_new f2.pn.tb na
      nt := fun b ps hb => by
        by_cases hba : b = a
        · subst hba; rw [upd_same] at hb; exact exF_tbl (Option.some.inj hb)
        · rw [upd_ne hba] at hb
          by_cases hbd : b = dx
          · subst hbd; rw [upd_same] at hb; cases hb
          · rw [upd_ne hbd] at hb; exact f2.pn.nt b ps hb
      xn := fun e' he' => by
        have he' : some e = some e' := he'
        cases he'
        subst hE
        exact ⟨upd_same, by show upd (upd F2 dx (.xd fv)) a (exF a oe) dx = _; rw [upd_ne neD]; exact upd_same⟩ }
    have fE : Fwd { g with en := some e } (upd (upd F2 dx (.xd fv)) a (exF a oe)) (upd H2 a (exF a oe)) (upd (upd F2 dx (.xd fv)) a (exF a oe)) (upd H2 a (exF a oe)) S2 := Fwd.refl sH pnE
    have ss2 : SS Z.K { g with en := some e } (upd (upd F2 dx (.xd fv)) a (exF a oe)) (upd (upd F2 dx (.xd fv)) a (exF a oe)) (upd H2 a (exF a oe)) (upd (upd F2 dx (.xd fv)) a (exF a oe)) (upd H2 a (exF a oe)) (((σ2.set 3 (some (.ref a))).set 1 (some (.ref a))).set 3 none) (errEv c w vs) S2 := {
      fb := Same.refl _
      fw := fE
      pa := ⟨_, pnE.at_⟩
      len := by simp only [List.length_set, hl8]; rfl
      val := fun i d hd => by
        have : i = 1 ∧ d = .exn (heardIs c) (w.2.zip vs) := by
          unfold errEv at hd
          match i, hd with
          | 0, hd => cases hd
          | 1, hd => cases hd; exact ⟨rfl, rfl⟩
          | 2, hd => cases hd
          | 3, hd => cases hd
          | 4, hd => cases hd
          | 5, hd => cases hd
          | 6, hd => cases hd
          | 7, hd => cases hd
          | (n + 8), hd => cases hd
        obtain ⟨rfl, rfl⟩ := this
        refine ⟨.ref a, ?_, ?_⟩
        · rw [List.getElem?_set_ne (by decide), List.getElem?_set_self (by simp only [List.length_set]; omega)]
        · simp only [Rep]
          refine ⟨e, rfl, ?_, ?_, ?_⟩ <;> (subst hE; rfl)
      own := fun i xs hd => by
        unfold errEv at hd
        match i, hd with
        | 0, hd => cases hd
        | 1, hd => cases hd
        | 2, hd => cases hd
        | 3, hd => cases hd
        | 4, hd => cases hd
        | 5, hd => cases hd
        | 6, hd => cases hd
        | 7, hd => cases hd
        | (n + 8), hd => cases hd
      dis := fun i j xs ys b hij hd => by
        unfold errEv at hd
        match i, hd with
        | 0, hd => cases hd
        | 1, hd => cases hd
        | 2, hd => cases hd
        | 3, hd => cases hd
        | 4, hd => cases hd
        | 5, hd => cases hd
        | 6, hd => cases hd
        | 7, hd => cases hd
        | (n + 8), hd => cases hd }
    refine ⟨_, _, _, _, _, S2, ss2, ?_⟩
    have hlv : vs.length = w.2.length := mapO_len hvs
    rw [heard_err hw hlv]
    intro F3 H3 v f3 r3
    simp only [Rep] at r3
    obtain ⟨p, ws, rfl, hp, rs⟩ := r3
    simp only [Reps, Rep] at rs
    obtain ⟨x0, r0, rfl, rfl, rs⟩ := rs
    have := raws rs
    subst this
    have hF3d : F3 dx = some (.xd fv) := f3.ff _ _ (by rw [upd_ne neD]; exact upd_same)
    have npd : p ≠ dx := fun z => by
      have hp : F3 p = some (.tup _) := hp
      rw [z, hF3d] at hp; cases hp
    refine hq (fun b => if b = dx then F2 b else F3 b) H3 p ?_ (by show (if p = dx then _ else _) = _; rw [if_neg npd]; exact hp)
    -- from before the error was told to the end
    have s23 : Same F2 F3 := sF.trans f3.ff
    exact {
      ff := fun b o hb => by
        show (if b = dx then F2 b else F3 b) = some o
        by_cases hbd : b = dx
        · rw [if_pos hbd]; exact hb
        · rw [if_neg hbd]; exact s23 b o hb
      fh := fun b o hb => by
        have hb : (if b = dx then F2 b else F3 b) = some o := hb
        by_cases hbd : b = dx
        · rw [if_pos hbd] at hb; exact f3.fh b o (s23 b o hb)
        · rw [if_neg hbd] at hb; exact f3.fh b o hb
      hh := fun b o hb n t => f3.hh b o (by rw [upd_ne (ne_of_none hb na)]; exact hb) n t
      hf := fun b o hb n t k => by
        show (if b = dx then F2 b else F3 b) = none
        by_cases hbd : b = dx
        · rw [if_pos hbd]; exact k
        · rw [if_neg hbd]
          exact f3.hf b o (by rw [upd_ne (ne_of_none hb na)]; exact hb) n t (by rw [upd_ne (ne_of_none hb na), upd_ne hbd]; exact k)
      pn := {
        fr := by
          show (if g.pa = dx then _ else _) = none
          rw [if_neg nPd]; exact f3.pn.fr
        at_ := f3.pn.at_
        cs := by
          show (if g.ca = dx then _ else _) = _
          rw [if_neg ncd]; exact f3.pn.cs
        tb := f3.pn.tb
        nt := fun b ps hb => by
          have hb : (if b = dx then F2 b else F3 b) = some (.tbl ps) := hb
          by_cases hbd : b = dx
          · rw [if_pos hbd] at hb; exact f2.pn.nt b ps hb
          · rw [if_neg hbd] at hb; exact f3.pn.nt b ps hb
        xn := fun e he => by rw [hgn] at he; cases he } }
  · -- none is
    rintro v H2 ⟨F2, d, S2, f2, r2, hq⟩
    have hen0 : ∀ e, g.en = some e → EnOk Z.K e := fun e he => by rw [hgn] at he; cases he
    refine ⟨g, hen0, ?_⟩
    have r2 : Rep Z.K g F2 d v := by rw [zK]; exact r2
    have hl8 : σ1.length = 8 := ss1.len.symm
    have ss2 : SS Z.K g F2 F2 H2 F2 H2 (σ1.set 2 (some v)) [some (.val (.raw (.ref f))), some (.val .non), some (.val d), none, none, none, none, none] S2 := {
      fb := Same.refl _
      fw := Fwd.refl f2.fh f2.pn
      pa := ⟨_, f2.pn.at_⟩
      len := by simp only [List.length_set, hl8]; rfl
      val := fun i d' hd => by
        match i, hd with
        | 0, hd => cases hd; exact ⟨.ref f, by rw [List.getElem?_set_ne (by decide)]; exact hv0, by simp only [Rep]⟩
        | 1, hd =>
          cases hd
          obtain ⟨v1, hv1, rv1⟩ := ss1.val 1 _ rfl
          refine ⟨v1, by rw [List.getElem?_set_ne (by decide)]; exact hv1, ?_⟩
          simp only [Rep] at rv1 ⊢; exact rv1
        | 2, hd => cases hd; exact ⟨v, by rw [List.getElem?_set_self (by omega)], r2⟩
        | 3, hd => cases hd
        | 4, hd => cases hd
        | 5, hd => cases hd
        | 6, hd => cases hd
        | 7, hd => cases hd
        | (n + 8), hd => cases hd
      own := fun i xs hd => by
        match i, hd with
        | 0, hd => cases hd
        | 1, hd => cases hd
        | 2, hd => cases hd
        | 3, hd => cases hd
        | 4, hd => cases hd
        | 5, hd => cases hd
        | 6, hd => cases hd
        | 7, hd => cases hd
        | (n + 8), hd => cases hd
      dis := fun i j xs ys b hij hd => by
        match i, hd with
        | 0, hd => cases hd
        | 1, hd => cases hd
        | 2, hd => cases hd
        | 3, hd => cases hd
        | 4, hd => cases hd
        | 5, hd => cases hd
        | 6, hd => cases hd
        | 7, hd => cases hd
        | (n + 8), hd => cases hd }
    refine ⟨_, _, _, _, _, S2, ss2, ?_⟩
    rw [heard_fine]
    intro F3 H3 w f3 r3
    exact hq F3 H3 w f3 (by rw [← zK]; exact r3)
end
end Pur

/-! PurP: _law_pen, as all the laws have it. -/
namespace Pur
open
    PySem PySem.Spec PyProof.Rows L2
def penN : List Str := ["script", "cell"]
/-- behind the pen's making: three new lists -/
structure PenMade (H H' : Hp) (xs : List V) (pa : Addr) : Prop where
  ex : ∃ p D, H p = none ∧ H D = none ∧ H pa = none ∧ D ≠ p ∧ pa ≠ p ∧ pa ≠ D ∧ H' = upd (upd (upd H p (.lst (xs.take 63))) D (.lst (xs.take 63))) pa (.lst [.ref D, .int 0, .int 0])
def spPen (K : PySem.W.Frag) : Sp := fun vs H Q _ => ∃ (a : Addr) (ns : List Int), vs = [.ref a] ∧ SqL K H a (ns.map V.int) ∧ ∀ pa H', PenMade H H' (ns.map V.int) pa → Q (.ref pa) H'
theorem cut63 (xs : List V) : cutV xs none (some 63) = xs.take 63 := by
  unfold cutV HT.sIx
  simp
section
variable {X : Cx} {sc scope : Scope} {p1 p2 p3 p4 p5 p6 p7 p8 p9 p10 p12 p13 : Pos} {k1 k2 k3 : Nat}
/-- [[int(cell) for cell in script[:63]], 0, 0] -/
theorem pe_pen (hsc : X.env.scope = sc) (hN : X.N = penN) (hc : X.calm = true) (hl : sc.names.lookup ("script" : Str) = some .local) (hi : X.mg "int" = none) (hg : glN (relS scope sc) "int" = true) (hb : blkC penN sc scope (ownOf penN scope) = true) (hown : ownOf penN scope = ([("cell", 1)] : List (Str × Nat))) (hcl : locN scope "cell" = true) (hcv : visN (relS scope sc) "cell" = true) :
    PE X (.List [.ListComp (.Call (.Name "int" p1) [.Name "cell" p2] [] p3) [⟨.Name "cell" p4, .Subscript (.Name "script" p5) (.Slice none (some (.Constant (.int 63) k1 p6)) none p12) p8, [], 0⟩] scope p9, .Constant (.int 0) k2 p10, .Constant (.int 0) k3 p13] p7)
      (fun σ H Q => ∃ (a : Addr) (ns : List Int), σ[0]? = some (some (.ref a)) ∧ σ.length = 2 ∧ SqL X.K H a (ns.map V.int) ∧ ∀ pa H', PenMade H H' (ns.map V.int) pa → Q (.ref pa) H') := by
  have nd : X.N.Nodup := by rw [hN]; decide +kernel
  have hsv : Vis X.env.scope "script" := by rw [hsc]; exact .inl hl
  have L := pe_lst (pos := p7) (pa_cons (pe_lc (pos := p9) hc nd (pi_list (X := X) (tg := .Name "cell" p4) (pe_slice (p2 := p12) (pos := p8) sl_list (pe_var (X := X) (i := 0) (x := "script") (pos := p5) (by rw [hN]; rfl) hsv) po_none (po_some (pe_int (i := 63) (j := k1) (pos := p6)))))
      (own := ownOf penN scope) (by rw [hN, hsc]; exact blkOk_by hb)
      (fun s H C cl fp => pg_name (X := X.blk s H scope (compEnvC scope cl C X.env) fp) (i := 1) nd (by show X.N[1]? = _; rw [hN]; rfl) (by
        have := tgOk_blk (X := X) hsc s H scope C cl fp "cell" hcl
        exact this.1) (by
        have := tgOk_blk (X := X) hsc s H scope C cl fp "cell" hcl
        exact this.2))
      (fun s H C cl fp => pts_nil)
      (fun s H C cl fp => pe_callTy (X := X.blk s H scope (compEnvC scope cl C X.env) fp) (p := p1) (pos := p3) call_int1 (gl_of (by rw [← hsc]; rfl) hg) hi (by decide +kernel) (pa_cons (pe_var (X := X.blk s H scope (compEnvC scope cl C X.env) fp) (i := 1) (x := "cell") (pos := p2) (by show X.N[1]? = _; rw [hN]; rfl) (by
        have e : (X.blk s H scope (compEnvC scope cl C X.env) fp).env.scope = relS scope sc := by rw [← hsc]; rfl
        rw [e]; exact vis_of hcv)) pa_nil)))
    (pa_cons (pe_int (i := 0) (j := k2) (pos := p10)) (pa_cons (pe_int (i := 0) (j := k3) (pos := p13)) pa_nil)))
  refine PE.weak L fun σ H Q h => ?_
  obtain ⟨a, ns, h0, hlen, hq, q⟩ := h
  generalize hcut : (ns.map V.int).take 63 = cut
  have hint : ∀ (i : Nat) (x : V), cut[i]? = some x → ∃ z : Int, x = .int z := fun i x e => by
    rw [← hcut] at e
    have := List.mem_of_getElem? e
    have := List.mem_of_mem_take this
    obtain ⟨z, _, rfl⟩ := List.mem_map.mp this
    exact ⟨z, rfl⟩
  have hsz : cut.length ≤ 63 := by rw [← hcut, List.length_take]; omega
  refine ⟨.ref a, h0, ⟨63, rfl, ?_⟩⟩
  refine ⟨a, _, rfl, hq, fun p hp => ⟨p, rfl, ⟨_, SqL.of upd_same⟩, fun D hD => ?_⟩⟩
  rw [cut63, hcut] at hD ⊢
  have hpD : D ≠ p := fun z => by rw [z, upd_same] at hD; cases hD
  have hD0 : H D = none := by rw [upd_ne hpD] at hD; exact hD
  have sqp : ∀ ys, SqL X.K (upd (upd H p (.lst cut)) D (.lst ys)) p cut := fun ys => SqL.of (by rw [upd_ne (Ne.symm hpD)]; exact upd_same)
  refine ⟨fun i m Hc => m = cut.length - i ∧ i ≤ cut.length ∧ Hc = upd (upd H p (.lst cut)) D (.lst (cut.take i)), ⟨cut.length, by omega, by omega, by rw [List.take_zero]⟩, ?_⟩
  rintro i m Hc ⟨rfl, hi', rfl⟩
  by_cases hlt : i < cut.length
  · refine .inr ⟨⟨cut, cut[i], sqp _, List.getElem?_eq_getElem hlt⟩, fun H' => H' = upd (upd H p (.lst cut)) D (.lst (cut.take (i + 1))), fun H' e => ⟨cut.length - (i + 1), by omega, rfl, by omega, e⟩, ?_⟩
    rintro x H' ⟨rfl, hx⟩
    have hx := hx cut (sqp _)
    obtain ⟨z, rfl⟩ := hint i x hx
    rw [hown]
    refine ⟨?_, ?_⟩
    · simp [wipe]
    · unfold tYes
      simp only [if_true]
      refine ⟨.int z, ?_, .inl ⟨z, rfl, cut.take i, upd_same, ?_, ?_⟩⟩
      · rw [List.getElem?_set_self]
        simp [wipe, hlen]
      · rw [List.length_take, sizeLine_eq]; omega
      · show upd (upd (upd H p (.lst cut)) D (.lst (cut.take i))) D _ = _
        rw [upd_upd]
        rw [List.take_succ, hx]
        rfl
  · have he : i = cut.length := by omega
    subst he
    refine .inl ⟨⟨cut, sqp _, Nat.le_refl _⟩, ?_⟩
    refine ⟨by show (3 : Nat) ≤ _; rw [sizeLine_eq]; decide, fun pa hpa => ?_⟩
    rw [List.take_length] at hpa ⊢
    have n1 : pa ≠ D := fun z => by rw [z, upd_same] at hpa; cases hpa
    have n2 : pa ≠ p := fun z => by rw [z, upd_ne (Ne.symm hpD), upd_same] at hpa; cases hpa
    exact q pa _ ⟨p, D, hp, hD0, by rw [upd_ne n1, upd_ne n2] at hpa; exact hpa, hpD, n2, n1, by rw [hcut]⟩
end
end Pur
namespace Pur
open
    PySem PySem.Spec PyProof.Rows L2
section
variable {P : Program} {w : World} {K : PySem.W.Frag} {mg : Str → Option Value} {base : Heap} {x qual : Str} {params : Arguments} {f : Addr} {fd : FuncData} {sc scope : Scope} {p1 p2 p3 p4 p5 p6 p7 p8 p9 p10 p11 p12 p13 : Pos} {k1 k2 k3 : Nat}
theorem pen_ok (F : FunD K x qual params [.Return (some (.List [.ListComp (.Call (.Name "int" p1) [.Name "cell" p2] [] p3) [⟨.Name "cell" p4, .Subscript (.Name "script" p5) (.Slice none (some (.Constant (.int 63) k1 p6)) none p12) p8, [], 0⟩] scope p9, .Constant (.int 0) k2 p10, .Constant (.int 0) k3 p13] p7)) p11] sc [] [] f fd)
    (S : FnScope penN ["script"] sc) (hi : mg "int" = none) (hl : sc.names.lookup ("script" : Str) = some .local) (hg : glN (relS scope sc) "int" = true) (hb : blkC penN sc scope (ownOf penN scope) = true) (hown : ownOf penN scope = ([("cell", 1)] : List (Str × Nat))) (hcl : locN scope "cell" = true) (hcv : visN (relS scope sc) "cell" = true) :
    FnOk P w K mg base (L2.CX P w) 2 f fd ["script"] (spPen K) := by
  refine F.ok (CX := L2.CX P w) (k := 1) S (fun vs H Q E ⟨a, ns, e, _⟩ => by rw [e]; rfl) fun cdv A outer s H vs Q E hroom hsp => ?_
  obtain ⟨a, ns, rfl, hq, q⟩ := hsp
  refine ⟨_, pss_one (ps_ret (pe_pen (X := cxOf (L2.CX P w) P w K mg base penN qual sc f cdv A outer s H E) (sc := sc) rfl rfl rfl hl hi hg hb hown hcl hcv)), ?_⟩
  exact ⟨a, ns, rfl, rfl, hq, fun pa H' m => q pa H' m⟩
end
end Pur

/-! PurW: a law's own def: its first row makes the pen; the rest is run by the interpreter. -/
namespace Pur
open
    PySem PySem.Spec PyProof.Rows L2
/-- the law's promise: on the script's numbers -/
def spLaw (K : PySem.W.Frag) (Pt : Addr) : Sp := fun vs H Q _ => ∃ (a : Addr) (ns : List Int), vs = [.ref a] ∧ ns.length ≤ 63 ∧ SqL K H a (ns.map V.int) ∧ H Pt = some (.tbl #[]) ∧ ∀ H', Q (.bl true) H'
/-- the pen as the law's rest finds it -/
def gLaw (pa D Pt : Addr) (q : Str) : G := ⟨pa, D, [(Pt, q)], none⟩
section
variable {T : Tx} {cd : Cd} {mk : MkE} {W k0 n : Nat} {P : Program} {w : World} {K : PySem.W.Frag} {mg : Str → Option Value} {base : Heap}
variable {fl fp fh : Addr} {ql qp qh : Str} {al ap ah : Arguments} {bl bp bh : List Stmt} {sl sp sh : Scope} {fdl fdp fdh : FuncData} {N : List Str} {rest : List Stmt} {lawC : List CSt} {p1 p2 p3 p4 p5 : Pos} {c Pt : Addr}
theorem law_fn (t : Txt T K mg) (hlam : T.lam = false) (hk : 1 ≤ k0) (hcd : ∀ x fn, T.fn x = some fn → ∀ body, cd x = some body → compFn T fn = some body) (hr : RaisAll P w K mg base T mk k0) (hr1 : RaisAll P w K mg base { T with lam := true, hk := heardHk } mk k0)
    -- the law
    (Fl : FunD K "law" ql al (.Assign [.Name "pen" p1] (.Call (.Name "_law_pen" p2) [.Name "script" p3] [] p4) p5 :: rest) sl [] [] fl fdl) (Sl : FnScope N ["script"] sl) (hpen : slotN N "pen" = some 1) (hscr : slotN N "script" = some 0) (hpl : sl.names.lookup ("pen" : Str) = some .local ∨ sl.names.lookup ("pen" : Str) = some .cell) (hsl : locN sl "script" = true) (hpg : glN sl "_law_pen" = true)
    (hC : mapO (cS { T with lam := true, hk := heardHk } N sl (mutN 40 rest) 40) rest = some lawC) (hcode : ∀ cdv, fdl.code = cdv → cdv = .ref c)
    -- the pen
    (Fp : FnOk P w K mg base (L2.CX P w) 2 fp fdp ["script"] (spPen K)) (mp : mg "_law_pen" = some (.ref fp)) (kp : PySem.W.keepIn K (.ref fp) = true) (bp' : Binds K fdp ["script"] [])
    -- what hears
    (Fh : FunD K "_law_heard" "_law_heard" ah bh sh [] [] fh fdh) (Bh : Binds K fdh ["ask"] []) (Sh : FnScope heardN ["ask"] sh) (mh : mg "_law_heard" = some (.ref fh))
    (Gh : ∀ (X : Cx) (g : G) (cdv : Value) (q : Str), X.K = K → X.mg = mg → Room 2 X.A → g.en = none → LamX.GivesTo X heardN "_law_heard" sh fh cdv bh "ask" q (TTh X.K g heardHk))
    (TB : LamX.TabB base mg c Pt)
    -- what it comes to
    (hrun : ∀ cells : List Int, cells.length ≤ 63 → ∃ S', exs (callN T cd mk W n) mk W lawC (none :: some (.val .pen) :: List.replicate (N.length - 2) none) ⟨0, 0, cells⟩ = .ok (.ret (.bl true)) S') :
    FnOk P w K mg base (L2.CX P w) (k0 + n + 3) fl fdl ["script"] (spLaw K Pt) := by
  obtain ⟨oc, od, dV, kV, doc, pm, an, cdv, ct, osl, rfl, lk, hcdq, _, _⟩ := Fl.ex
  have hcv : cdv = .ref c := hcode cdv rfl
  subst hcv
  refine fn_of (CX := L2.CX P w) (k := k0 + n + 2) lk hcdq Sl (fun vs H Q E ⟨a, ns, e, _⟩ => by rw [e]; rfl) fun A outer s H vs Q E hroom hsp => ?_
  obtain ⟨a, ns, rfl, hns, hq, hP, q⟩ := hsp
  generalize hX : cxOf (L2.CX P w) P w K mg base N ql sl fl (.ref c) A outer s H E = X
  have xK : X.K = K := by rw [← hX]; rfl
  have xN : X.N = N := by rw [← hX]; rfl
  have xsc : X.env.scope = sl := by rw [← hX]; rfl
  have xmg : X.mg = mg := by rw [← hX]; rfl
  have xb : X.base = base := by rw [← hX]; rfl
  have xP : X.prog = P := by rw [← hX]; rfl
  have xw : X.w = w := by rw [← hX]; rfl
  have xroom : Room (k0 + n + 2) X.A := by rw [← hX]; exact hroom
  have xcode : X.env.code = .ref c := by rw [← hX]; rfl
  have xfn : ∀ x, X.fn x = true := fun x => by rw [← hX]; rfl
  have xcalm : X.calm = true := by rw [← hX]; rfl
  have xtk : Takes X (fun cls d _ H => E cls d H) := by rw [← hX]; exact takes_of rfl rfl rfl rfl
  have xpo : PassesOwn (model X.prog X.w) X.A X.env X.xe := by rw [← hX]; exact passes_of rfl
  -- the rest, by the interpreter
  have O : ∀ pa D, XOk { T with lam := true, hk := heardHk } (gLaw pa D Pt (X.env.qual ++ "<lambda>")) (callN T cd mk W n) N sl E (k0 + n) X := fun pa D => {
    n := xN
    sc := xsc
    nd := by rw [xN]; exact Sl.nd
    calm := xcalm
    room := xroom.mono (by omega)
    room1 := xroom.mono (by omega)
    tk := xtk
    wf := by
      rw [xP, xw, xK, xmg, xb]
      exact {
        fn := fun y fy hy => by
          obtain ⟨fd', b', kb', ok'⟩ := tab_ok (P := P) (w := w) (base := base) (g := gLaw pa D Pt (X.env.qual ++ "<lambda>")) t (fun e he => by cases he) hlam hk hcd hr n y fy hy
          have ft' := t.fn y fy hy
          obtain ⟨_, _, _, F', _, _⟩ := ft'.fd
          rw [Tx.fn_name hy] at F'
          exact ⟨by have := ft'.mg; rw [Tx.fn_name hy] at this; exact this, F'.kp, fd', b', kb', ok'⟩
        free := t.free
        int := t.int
        str := t.str
        cls := t.cls }
    lam := fun _ => {
      ex := by
        obtain ⟨oc', od', dV', kV', doc', pm', an', cdv', ct', osl', e', lk', hcd', _, _⟩ := Fh.ex
        subst e'
        refine ⟨c, Pt, fh, ah, bh, sh, dV', kV', doc', pm', cdv', ct', oc', an', od', osl', heardN, "ask", ?_⟩
        rw [xK, xmg, xb]
        refine ⟨mh, Fh.kp, lk', hcd', Bh, Sh, rfl, ?_, by decide, by decide, ?_, TB, xcode, List.mem_singleton.mpr rfl, fun p hp _ => by rw [List.mem_singleton.mp hp]⟩
        · rcases Sh.par "ask" (List.mem_singleton.mpr rfl) with h | h
          · exact .inl h
          · exact .inr (.inl h)
        · have := Gh X (gLaw pa D Pt (X.env.qual ++ "<lambda>")) cdv' (X.env.qual ++ "<lambda>") xK xmg (xroom.mono (by omega)) rfl
          rw [xK] at this
          exact this
      room := xroom
      k1 := by omega }
    en := fun e he => by cases he }
  have DO : ∀ pa D, DOk { T with lam := true, hk := heardHk } (gLaw pa D Pt (X.env.qual ++ "<lambda>")) (callN T cd mk W n) mk N sl E (k0 + n) X := fun pa D => {
    toXOk := O pa D
    blk := by
      have : X.env.scope.kind = .function := by rw [xsc]; exact Sl.kind
      unfold Env.blockKind
      rw [this]; rfl
    fnT := xfn
    po := xpo
    rais := hr1 _ _ _ _ _ _ X xP xw xK xmg xb (by omega) (O pa D) }
  have prest : PSs X rest (fun Dn σ H => ∃ pa D, tSt X.K (gLaw pa D Pt (X.env.qual ++ "<lambda>")) E (exs (callN T cd mk W n) mk W lawC) Dn σ H) :=
    ⟨fun pins s σ H Dn I ⟨pa, D, hh⟩ => (block_of (fun st c h => sound_S (DO pa D) (mutN 40 rest) 40 st c h) hC).run pins s σ H Dn I hh⟩
  have hN0 := slot_at hscr
  have hN1 := slot_at hpen
  have Fp' : FnOk X.prog X.w X.K X.mg X.base (L2.CX X.prog X.w) 2 fp fdp ["script"] (spPen K) := by rw [xP, xw, xK, xmg, xb]; exact Fp
  have pcall : PE X (.Call (.Name "_law_pen" p2) [.Name "script" p3] [] p4) (tCall (spPen K) [] E (tCons (tVar 0) tNil)) :=
    pe_call Fp' (xroom.mono (by omega)) (gl_of xsc hpg) (by rw [xmg]; exact mp) (by rw [xK]; exact kp) (by rw [xK]; exact bp') .nil (passes_call xtk fun _ _ _ _ h => h) (pa_cons (pe_var (X := X) (i := 0) (x := "script") (pos := p3) (by rw [xN]; exact hN0) (by rw [xsc]; exact vis_loc hsl)) pa_nil)
  have ps1 := ps_set (X := X) (pos := p5) (pos' := p1) (i := 1) (x := "pen") (by rw [xN]; exact Sl.nd) (by rw [xN]; exact hN1) (by rw [xsc]; exact hpl) pcall rfl (.inl (xfn _))
  refine ⟨_, pss_cons ps1 prest, ?_⟩
  have hlen : 1 < N.length := by
    have := (List.getElem?_eq_some_iff.mp hN1).1
    exact this
  refine ⟨.ref a, by rw [start_get (by simp)]; rfl, ?_⟩
  refine ⟨a, ns, rfl, hq, fun pa H' pm => ?_⟩
  obtain ⟨p, D, hp, hD, hpa, nDp, npp, npD, rfl⟩ := pm
  have nPp : Pt ≠ p := fun z => by rw [z, hp] at hP; cases hP
  have nPD : Pt ≠ D := fun z => by rw [z, hD] at hP; cases hP
  have nPpa : Pt ≠ pa := fun z => by rw [z, hpa] at hP; cases hP
  have hmap : (ns.map V.int).take 63 = (ns.take 63).map V.int := by rw [List.map_take]
  rw [hmap]
  refine ⟨pa, D, fun b => if b = D then some (.lst ((ns.take 63).map V.int)) else none, fun b => if b = D then some (.lst ((ns.take 63).map V.int)) else none, upd (upd (upd H p (.lst ((ns.take 63).map V.int))) D (.lst ((ns.take 63).map V.int))) pa (.lst [.ref D, .int 0, .int 0]), fun b => if b = D then some (.lst ((ns.take 63).map V.int)) else none, none :: some (.val .pen) :: List.replicate (N.length - 2) none, ⟨0, 0, ns.take 63⟩, ?_, ?_⟩
  · have fh : Same (fun b => if b = D then some (HO.lst ((ns.take 63).map V.int)) else none) (upd (upd (upd H p (.lst ((ns.take 63).map V.int))) D (.lst ((ns.take 63).map V.int))) pa (.lst [.ref D, .int 0, .int 0])) := fun b o hb => by
      have hb : (if b = D then some (HO.lst ((ns.take 63).map V.int)) else none) = some o := hb
      by_cases e : b = D
      · rw [if_pos e] at hb
        rw [e, upd_ne (Ne.symm npD), upd_same]; exact hb
      · rw [if_neg e] at hb; cases hb
    have pn : PenOk (gLaw pa D Pt (X.env.qual ++ "<lambda>")) (fun b => if b = D then some (HO.lst ((ns.take 63).map V.int)) else none) (upd (upd (upd H p (.lst ((ns.take 63).map V.int))) D (.lst ((ns.take 63).map V.int))) pa (.lst [.ref D, .int 0, .int 0])) ⟨0, 0, ns.take 63⟩ := {
      fr := by show (if pa = D then _ else _) = _; rw [if_neg npD]
      at_ := upd_same
      cs := by show (if D = D then _ else _) = _; rw [if_pos rfl]
      tb := fun x hx => by
        rw [List.mem_singleton.mp hx]
        refine LamX.TabS.nil ?_
        show upd _ _ _ Pt = _
        rw [upd_ne nPpa, upd_ne nPD, upd_ne nPp]; exact hP
      nt := fun b ps hb => by
        have hb : (if b = D then some (HO.lst ((ns.take 63).map V.int)) else none) = some (.tbl ps) := hb
        by_cases e : b = D
        · rw [if_pos e] at hb; cases hb
        · rw [if_neg e] at hb; cases hb
      xn := fun e he => by cases he }
    exact {
      fb := Same.refl _
      fw := Fwd.refl fh pn
      pa := ⟨_, pn.at_⟩
      len := by
        unfold L2.start
        simp only [List.length_cons, List.length_replicate, List.length_set, List.length_append, List.length_map, List.length_nil]
        omega
      val := fun i d hd => by
        match i, hd with
        | 0, hd => cases hd
        | 1, hd =>
          cases hd
          refine ⟨.ref pa, ?_, by simp only [Rep]; rfl⟩
          rw [List.getElem?_set_self]
          unfold L2.start
          simp only [List.length_replicate, List.length_append, List.length_map, List.length_cons, List.length_nil]
          omega
        | (m + 2), hd =>
          rw [List.getElem?_cons_succ, List.getElem?_cons_succ] at hd
          have := List.mem_of_getElem? hd
          simp at this
      own := fun i xs hd => by
        match i, hd with
        | 0, hd => cases hd
        | 1, hd => cases hd
        | (m + 2), hd =>
          rw [List.getElem?_cons_succ, List.getElem?_cons_succ] at hd
          have := List.mem_of_getElem? hd
          simp at this
      dis := fun i j xs ys b hij hd => by
        match i, hd with
        | 0, hd => cases hd
        | 1, hd => cases hd
        | (m + 2), hd =>
          rw [List.getElem?_cons_succ, List.getElem?_cons_succ] at hd
          have := List.mem_of_getElem? hd
          simp at this }
  · obtain ⟨S', e⟩ := hrun (ns.take 63) (by rw [List.length_take]; omega)
    rw [e]
    intro F1 H1 v f r
    simp only [Rep] at r
    subst r
    exact q H1
end
end Pur

/-! PurHook: what the head is asked: facts of the defs, of the errors, of what hears. -/
namespace Pur
open
    PySem PySem.Spec PyProof.Rows L2
theorem lookS {β : Type} {x : Str} {b : β} : ∀ {l : List (Str × β)}, l.lookup x = some b → (x, b) ∈ l
  | [], h => by cases h
  | (y, c) :: l, h => by
    rcases look_cons h with ⟨rfl, rfl⟩ | h
    · exact List.mem_cons_self ..
    · exact List.mem_cons_of_mem _ (lookS h)
/-! ### errors, by Bools -/
def oexB (K : PySem.W.Frag) (C : Addr) : Bool := (match K.lookup C with
  | some ⟨.type "type", _, .cls cd, sl⟩ =>
        (match cd.mro, sl.toList with
    | .ref C' :: bm, [_, _, _, _, some (.builtin n), _] => C' == C && (n == "ValueError.__new__" && (!cd.hasDel && (cd.hasDict && PySem.HandSPX.refsVE bm)))
    | _, _ => false)
  | _ => false) && (He.eqO (PySem.W.findIn K (.ref C) "__setattr__") (some (some (.builtin "object.__setattr__"))) && (decide (PySem.W.subIn K (.ref C) (.type "BaseException") = some true) && (decide (PySem.W.typeIn K (.ref C) = some (.type "type")) && PySem.W.keepIn K (.ref C))))
theorem oexB_ok {K : PySem.W.Frag} {C : Addr} (h : oexB K C = true) : OexC K C := by
  obtain ⟨h1, h⟩ := He.ba h
  obtain ⟨h2, h⟩ := He.ba h
  obtain ⟨h3, h⟩ := He.ba h
  obtain ⟨h4, h5⟩ := He.ba h
  refine ⟨?_, He.eqO_ok h2, of_decide_eq_true h3, of_decide_eq_true h4, h5⟩
  split at h1
  · rename_i dd cd sl ho
    split at h1
    · rename_i
          C' bm k0 k1 k2 k3 n k5 hm hs
      simp only [Bool.and_eq_true, beq_iff_eq, Bool.not_eq_true'] at h1
      obtain ⟨rfl, rfl, hdel, hhd, ht⟩ := h1
      obtain
          ⟨nm, bs, mro, ns, qn, hd, sn, sub, ab, col, del⟩ := cd
      dsimp only at hm hdel hhd
      subst hm hdel hhd
      have hsl : sl = #[k0, k1, k2, k3, some (.builtin "ValueError.__new__"), k5] := by
        obtain ⟨l⟩ := sl
        simp only at hs
        rw [hs]
      subst hsl
      exact ⟨nm, qn, ns, bs, bm, sn, sub, ab, col, dd, k0, k1, k2, k3, k5, ho, ht⟩
    · cases h1
  · cases h1
/-- an error class x, made by the __init__ of the class dn -/
def errB (K : PySem.W.Frag) (p : Str × Str × List Str) : Bool := oexB K (He.ga K p.1) && (decide (PySem.W.mroIn K (He.ga K p.1) (.ref (He.ga K p.2.1)) = some true) && (He.eqO (PySem.W.ks_superIn K (He.ga K p.1) (He.ga K p.2.1) "__init__") (some (some (.builtin "ValueError.__init__"))) &&
  (decide (PySem.W.subIn K (.ref (He.ga K p.1)) (.type "ValueError") = some true) && (p.2.2.all (fun f => He.eqO (PySem.W.findIn K (.ref (He.ga K p.1)) f) (some none)) && (He.eqO (PySem.W.findIn K (.ref (He.ga K p.1)) "__init__") (some (some (.ref (He.fAd K (p.2.1, some "__init__"))))) &&
  decide (PySem.W.typeIn K (.ref (He.fAd K (p.2.1, some "__init__"))) = some (.type "function")))))))
theorem errB_ok {K : PySem.W.Frag} {x dn : Str} {fs : List Str} (h : errB K (x, dn, fs) = true) : ExK K (He.ga K dn) (He.ga K x) fs ∧ PySem.W.findIn K (.ref (He.ga K x)) "__init__" = some (some (.ref (He.fAd K (dn, some "__init__")))) ∧ PySem.W.typeIn K (.ref (He.fAd K (dn, some "__init__"))) = some (.type "function") := by
  obtain ⟨h1, h⟩ := He.ba h
  obtain ⟨h2, h⟩ := He.ba h
  obtain ⟨h3, h⟩ := He.ba h
  obtain ⟨h4, h⟩ := He.ba h
  obtain ⟨h5, h⟩ := He.ba h
  obtain ⟨h6, h7⟩ := He.ba h
  exact ⟨⟨of_decide_eq_true h2, He.eqO_ok h3, of_decide_eq_true h4, oexB_ok h1, fun f hf => He.eqO_ok (List.all_eq_true.mp h5 f hf)⟩, He.eqO_ok h6, of_decide_eq_true h7⟩
/-! ### the __init__ of an error's class -/
/-- one __init__: its class, its def's statement, its fields -/
structure InD where
  cls : Str
  st : Stmt
  fs : List Str
def InD.at_ (d : InD) : Str × Option Str := (d.cls, some "__init__")
def InD.qual (d : InD) : Str := d.cls ++ ".__init__"
abbrev FnC : Type := Option (Str × Str × Arguments × FuncBody × Scope × Addr × List Str × Addr)
def fnC (K : PySem.W.Frag) (p : Str × Option Str) : FnC := match K.lookup (He.fAd K p) with
  | some ⟨_, _, .func fd, _⟩ => some (fd.name, fd.qualname, fd.params, fd.body, fd.scope, fd.globals, fd.closure.map (·.1), fd.builtins)
  | _ => none
def InD.val (d : InD) : FnC := some ("__init__", d.qual, defArgs d.st, .stmts (defBody d.st), defScope d.st, mainGlobals, ["__class__"], builtinsNs)
def InD.ok (P : Program) (K : PySem.W.Frag) (d : InD) : Bool := (match K.lookup (He.fAd K d.at_) with
  | some ⟨_, _, .func fd, _⟩ => PySem.W.codeIn K fd.code d.qual && ((match fd.code with
      | .ref cda => (match K.lookup cda with
        | some ⟨_, _, .fields vs, _⟩ => (match (vs[2]? : Option Value) with
          | some (.str file _) => (P.main.file : Str) == file
          | _ => false)
        | _ => false)
      | _ => false) && (match fd.closure with
      | [(_, cc)] => (match K.lookup cc with
        | some ⟨_, _, .cell (some (.ref D)), _⟩ => decide (D = He.ga K d.cls) && (match fd.defaults with
          | .none => true
          | _ => false)
        | _ => false)
      | _ => false))
  | _ => false) && ((PySem.W.clsIn K (He.ga K d.cls)).isSome && (He.eqO (PySem.W.nsIn K mainGlobals "super") (some none) && (He.eqO (PySem.W.nsIn K cStatics "thirdparty.any") (some none) && !(P.main.scope.names.lookup ("super" : Str)).isSome)))
theorem InD.fn {P : Program} {K : PySem.W.Frag} {d : InD} (e : fnC K d.at_ = d.val) (c : d.ok P K = true) : ∃ oc od osl kV doc pm an ct cda cc,
    K.lookup (He.fAd K d.at_) = some ⟨oc, od, .func (PySem.W.ksFn "__init__" d.qual (defArgs d.st) (defBody d.st) (defScope d.st) .none kV doc pm an (.ref cda) ct cc), osl⟩ ∧ PySem.W.codeIn K (.ref cda) d.qual = true ∧ SuK P K (He.ga K d.cls) cda cc := by
  obtain ⟨c1, c2⟩ := He.ba c
  obtain ⟨c2, c3⟩ := He.ba c2
  obtain ⟨c3, c4⟩ := He.ba c3
  obtain ⟨c4, c5⟩ := He.ba c4
  unfold fnC at e
  cases q : K.lookup (He.fAd K d.at_) with
  | none =>
    rw [q] at c1
    cases c1
  | some o =>
    obtain ⟨oc, od, dt, osl⟩ := o
    rw [q] at c1 e
    cases dt with
    | func fd =>
      obtain
          ⟨n1, n2, n3, n4, n5, n6, n7, n8, n9, n10, n11, n12, n13, n14, n15⟩ := fd
      have e2 : (some (n1, n2, n3, n4, n5, n6, n7.map (·.1), n15) : FnC) = d.val := e
      unfold InD.val at e2
      simp
          only [Option.some.injEq, Prod.mk.injEq] at e2
      obtain
          ⟨h1, h2, h3, h4, h5, h6, h7, h8⟩ := e2
      subst h1 h2 h3 h4 h5 h6 h8
      obtain ⟨k1, c1⟩ := He.ba c1
      obtain ⟨k2, k3⟩ := He.ba c1
      dsimp only at k1 k2 k3
      cases n13 with
      | ref cda =>
        dsimp only at k2
        split at k2
        · rename_i o1 od1 vs sl1 hcode
          split at k2
          · rename_i file tf hvs
            split at k3
            · rename_i nm cc hcl
              split at k3
              · rename_i c1 od2 D sl2 hcell
                obtain ⟨k3, k4⟩ := He.ba k3
                have hD := of_decide_eq_true k3
                subst hD
                have e8 : n8 = .none := by
                  cases n8 <;> first | rfl | (cases k4; done)
                subst e8
                have en : nm = "__class__" := by simpa using h7
                subst en
                refine ⟨oc, od, osl, n9, n10, n11, n12, n14, cda, cc, rfl, k1, ⟨⟨_, _, vs, file, tf, _, hcode, hvs, k2⟩, ⟨_, _, _, hcell⟩, Option.isSome_iff_exists.mp c2, He.eqO_ok c3, He.eqO_ok c4, by simpa using c5⟩⟩
              · cases k3
            · cases k3
          · cases k2
        · cases k2
      | _ => cases k2
    | _ => cases c1
/-! ### what hears -/
def heB (K : PySem.W.Frag) (p : Str × Str × List Str) : Bool := (He.eqO (PySem.W.findIn K (.ref (He.ga K p.1)) "__class__") (some (some (.builtin "object.__class__"))) && (He.eqO (PySem.W.specialIn K (.builtin "object.__class__") "__get__") (some (some (.builtin "getset_descriptor.__get__"))) &&
  (decide (PySem.W.takesIn K (.builtin "object.__class__") = some true) && decide (PySem.W.mroIn K (He.ga K p.1) (.type "object") = some true)))) && (xfB K (He.ga K p.1) && ((heardIs p.1).all (fun q => decide (PySem.W.kitOne K (.ref (He.ga K p.1)) (.ref (He.ga K q.1)) = some q.2)) && (p.2.2.all (fun f => He.eqO (PySem.W.findIn K (.ref (He.ga K p.1)) f) (some none)) &&
  decide (PySem.W.exmOne K (.ref (He.ga K p.1)) (.ref (He.ga K "WhomError")) = some true))))
theorem heB_ok {K : PySem.W.Frag} {p : Str × Str × List Str} (h : heB K p = true) : HeK K p.1 p.2 := by
  obtain ⟨h1, h⟩ := He.ba h
  obtain ⟨h2, h⟩ := He.ba h
  obtain ⟨h3, h⟩ := He.ba h
  obtain ⟨h4, h5⟩ := He.ba h
  obtain ⟨a1, a⟩ := He.ba h1
  obtain ⟨a2, a⟩ := He.ba a
  obtain ⟨a3, a4⟩ := He.ba a
  have x := xfB_ok h2
  exact ⟨⟨x.ga, x.gg, x.exC, x.hdC, He.eqO_ok a1, He.eqO_ok a2, of_decide_eq_true a3, of_decide_eq_true a4⟩, x, fun C b hl => by
      have hm : (C, b) ∈ heardIs p.1 := lookS hl
      exact of_decide_eq_true (List.all_eq_true.mp h3 _ hm), fun f hf => He.eqO_ok (List.all_eq_true.mp h4 f hf), of_decide_eq_true h5⟩
theorem hear_all {K : PySem.W.Frag} (h : (heardHk.all (heB K)) = true) : ∀ c w, heardHk.lookup c = some w → HeK K c w := fun c w hl => heB_ok (p := (c, w)) (List.all_eq_true.mp h _ (lookS hl))
end Pur

/-! PurHook2: the Hook; what follows of what it says. -/
namespace Pur
open
    PySem PySem.Spec PyProof.Rows L2
abbrev AlP : Type := He.AlD × List FnC × Bool
/-- an error's class, the class whose __init__ makes it, its fields -/
abbrev Er := Str × Str × List Str
def obsK (P : Program) (fa : List He.Fa) (fn : List He.DefD) (ins : List InD) (er : List Er) (tf : List He.Defn) (g : Addr → Option Obj) (K : PySem.W.Frag) : AlP :=
  (He.obsD fa fn K, ins.map (fun d => fnC K d.at_), er.all (errB K) && (ins.all (InD.ok P K) && (heardHk.all (heB K) && He.tabsB g tf K)))
def frP (n : Nat) (g : Addr → Option Obj) : PySem.W.Frag := He.frT g (cStatics :: He.asD g n)
def obsP (P : Program) (n : Nat) (fa : List He.Fa) (fn : List He.DefD) (ins : List InD) (er : List Er) (tf : List He.Defn) (g : Addr → Option Obj) : AlP := obsK P fa fn ins er tf g (frP n g)
def valP (fn : List He.DefD) (ins : List InD) : AlP := (He.valD fn, ins.map InD.val, true)
/-- what is told -/
structure SaysP (P : Program) (fa : List He.Fa) (fn : List He.DefD) (ins : List InD) (er : List Er) (tf : List He.Defn) (h : Heap) (K : PySem.W.Frag) : Prop where
  d : He.SaysD fa fn K
  i : ins.map (fun d => fnC K d.at_) = ins.map InD.val
  e : er.all (errB K) = true
  io : ins.all (InD.ok P K) = true
  hr : heardHk.all (heB K) = true
  hd : ∀ p ∈ tf, PySem.W.codeHdIn K (He.cT K p).1 (He.cT K p).2 = true
  out : ∀ p ∈ tf, K.lookup (He.cT K p).2 = none
  empty : ∀ p ∈ tf, h.get? (He.cT K p).2 = some { cls := .none, data := .fields #[] }
theorem saysP_of {P : Program} {n : Nat} {fa : List He.Fa} {fn : List He.DefD} {ins : List InD} {er : List Er} {tf : List He.Defn} {h : Heap} (e : obsP P n fa fn ins er tf h.get? = valP fn ins) : SaysP P fa fn ins er tf h (frP n h.get?) := by
  have e1 : He.obsD fa fn (frP n h.get?) = He.valD fn := congrArg (fun z : AlP => z.1) e
  have e2 : ins.map (fun d => fnC (frP n h.get?) d.at_) = ins.map InD.val := congrArg (fun z : AlP => z.2.1) e
  have e3 : (er.all (errB (frP n h.get?)) && (ins.all (InD.ok P (frP n h.get?)) && (heardHk.all (heB (frP n h.get?)) && He.tabsB h.get? tf (frP n h.get?)))) = true := congrArg (fun z : AlP => z.2.2) e
  obtain ⟨h1, e3⟩ := He.ba e3
  obtain ⟨h2, e3⟩ := He.ba e3
  obtain ⟨h3, h4⟩ := He.ba e3
  have key : ∀ p ∈ tf, PySem.W.codeHdIn (frP n h.get?) (He.cT (frP n h.get?) p).1 (He.cT (frP n h.get?) p).2 = true ∧ ∃ o, h.get? (He.cT (frP n h.get?) p).2 = some o ∧ He.emptyTab o = true := fun p hp => by
    obtain ⟨h5, h6⟩ := He.ba (List.all_eq_true.mp h4 p hp)
    refine ⟨h5, ?_⟩
    cases q : h.get? (He.cT (frP n h.get?) p).2 with
    | none =>
      rw [q] at h6
      cases h6
    | some o =>
      rw [q] at h6
      exact ⟨o, rfl, h6⟩
  exact ⟨e1, e2, h1, h2, h3, fun p hp => (key p hp).1, fun p hp => by
    obtain
        ⟨_, o, q, z⟩ := key p hp
    exact He.frT_none q z, fun p hp => by
    obtain
        ⟨_, o, q, z⟩ := key p hp
    rw [q, He.emptyTab_eq z]⟩
def hookP (P : Program) (n : Nat) (fa : List He.Fa) (fn : List He.DefD) (ins : List InD) (er : List Er) (tf : List He.Defn) : PySem.W.Hook where
  α := AlP
  obs := fun s => obsP P n fa fn ins er tf s.heap.get?
  val := fun _ => valP fn ins
  says := fun _ h => ∃ K : PySem.W.Frag, K.In h ∧ SaysP P fa fn ins er tf h K
  of := fun _ _ e => ⟨_, He.frT_in, saysP_of e⟩
  keeps := fun _ _ _ ⟨K, hK, c⟩ k => ⟨K, PySem.W.Frag.In.keeps hK k, ⟨c.d, c.i, c.e, c.io, c.hr, c.hd, c.out, fun p hp => k _ _ (c.empty p hp)⟩⟩
theorem obsP_eq {P : Program} {n : Nat} {fa : List He.Fa} {fn : List He.DefD} {ins : List InD} {er : List Er} {tf : List He.Defn} {g : Addr → Option Obj} {s : Shared} (h : ∀ a, g a = s.heap.get? a) : obsP P n fa fn ins er tf g = (hookP P n fa fn ins er tf).obs s := by
  have
      e : g = s.heap.get? := funext h
  rw [e] <;> rfl
/-! ### the text's defs -/
/-- one def, with its arguments -/
structure Df where
  fn : Fn
  args : Arguments
def Df.dd (d : Df) : He.DefD := ⟨(d.fn.name, none), d.fn.name, d.fn.name, d.args, d.fn.body, d.fn.scope, [], []⟩
/-- its parameters are bound one by one -/
def Df.Bp (d : Df) : Prop := ∀ (kV doc pm : Value) (an : Option Addr) (cdv ct : Value) (us : List Value), us.length = d.fn.ps.length → bindArgs (PySem.W.fnOf d.fn.name d.fn.name d.args d.fn.body d.fn.scope .none kV doc pm an cdv ct) ⟨us, []⟩ = pure (d.fn.ps.zip us)
def fnScopeB (N P : List Str) (sc : Scope) : Bool := decide (sc.kind = .function) && (!sc.isCoroutine && (!sc.isGenerator && (decide N.Nodup && (decide (N.take P.length = P) && (P.all (fun x => decide (sc.names.lookup x = some .local ∨ sc.names.lookup x = some .cell)) && sc.names.all fun y => decide (y.2 ≠ .free))))))
theorem fnScopeB_ok {N P : List Str} {sc : Scope} (h : fnScopeB N P sc = true) : FnScope N P sc := by
  unfold fnScopeB at h
  simp only [Bool.and_eq_true, decide_eq_true_eq, Bool.not_eq_true', List.all_eq_true] at h
  obtain ⟨h1, h2, h3, h4, h5, h6, h7⟩ := h
  exact
      ⟨h1, h2, h3, h4, h5, h6, h7⟩
/-- it is called by keywords alone: ks from the left, ix tells where each parameter's value stands -/
def Df.Kp (d : Df) (ks : List Str) (ix : List Nat) : Prop := ∀ (kV doc pm : Value) (an : Option Addr) (cdv ct : Value) (ws : List Value), ws.length = ks.length → bindArgs (PySem.W.fnOf d.fn.name d.fn.name d.args d.fn.body d.fn.scope .none kV doc pm an cdv ct) ⟨[], ks.zip ws⟩ = pure (d.fn.ps.zip (ix.filterMap fun i => ws[i]?))
theorem kwB_of {d : Df} {K : PySem.W.Frag} {fd : FuncData} {ks : List Str} {ix : List Nat} (b : d.Kp ks ix) (F : FunD K d.fn.name d.fn.name d.args d.fn.body d.fn.scope [] [] (He.ga K d.fn.name) fd) : KwB K fd d.fn.ps ks ix := fun s ws hl => by
  obtain
      ⟨oc, od, dV, kV, doc, pm, an, cdv, ct, osl, rfl, lk, hcd, hD, hK⟩ := F.ex
  rcases
      hD with ⟨_, rfl⟩ | ⟨e, _⟩
  · exact .of_eq (b kV doc pm an cdv ct ws hl)
  · exact absurd rfl e
/-- what the head is asked of a text -/
def faOf (T : Tx) : List He.Fa := T.fns.map (fun f => .glo f.name) ++ (T.clss.map .glo ++ (T.free.map .free ++ (T.cInt.map (fun p => .int p.1 p.2) ++ T.cStr.map (fun p => .str p.1 p.2))))
section
variable {T : Tx} {df more : List Df} {P : Program} {ins : List InD} {er : List Er} {tf : List He.Defn} {h : Heap} {K : PySem.W.Frag} {mg : Str → Option Value}
theorem fact_of (c : SaysP P (faOf T) (df.map Df.dd) ins er tf h K) {f : He.Fa} (hf : f ∈ faOf T) : f.ok K = true := c.d.facts hf
theorem fn_mg (X : K.In h) (G : h.Ns mainGlobals mg) (c : SaysP P (faOf T) (df.map Df.dd) ins er tf h K) {f : Fn} (hf : f ∈ T.fns) : mg f.name = some (.ref (He.ga K f.name)) :=
  He.glo_ok X G (fact_of c (List.mem_append_left _ (List.mem_map_of_mem hf)))
theorem fn_D (c : SaysP P (faOf T) (df.map Df.dd) ins er tf h K) {d : Df} (hd : d ∈ df) : ∃ fd, FunD K d.fn.name d.fn.name d.args d.fn.body d.fn.scope [] [] (He.ga K d.fn.name) fd := by
  have := c.d.defs (d := d.dd) (List.mem_map_of_mem hd)
  exact this
theorem fn_B {d : Df} {fd : FuncData} (b : d.Bp) (F : FunD K d.fn.name d.fn.name d.args d.fn.body d.fn.scope [] [] (He.ga K d.fn.name) fd) : Binds K fd d.fn.ps [] := FunD.bindsN F fun _ _ _ _ _ _ us hl => b _ _ _ _ _ _ us hl
theorem txt_of (X : K.In h) (G : h.Ns mainGlobals mg) (c : SaysP P (faOf T) (df.map Df.dd) ins er tf h K) (hT : T.fns = df.map Df.fn) (hb : ∀ d ∈ df, d.Bp) (hs : df.all (fun d => fnScopeB d.fn.N d.fn.ps d.fn.scope) = true) (hkw : ∀ d ∈ df, ∀ ks ix, (d.fn.name, ks, ix) ∈ T.kws → d.Kp ks ix) : Txt T K mg where
  fn := fun x fn hx => by
    have hm : fn ∈ T.fns := List.mem_of_find?_eq_some hx
    have hm2 := hm
    rw [hT] at hm2
    obtain ⟨d, hd, rfl⟩ := List.mem_map.mp hm2
    obtain ⟨fd, F⟩ := fn_D c hd
    have S := fnScopeB_ok (List.all_eq_true.mp hs d hd)
    refine ⟨fn_mg X G c hm, ⟨_, _, fd, F, fn_B (hb d hd) F, fun ks ix hk => kwB_of (hkw d hd ks ix hk) F⟩, S, ?_⟩
    have := congrArg List.length S.pre
    rw [List.length_take] at this
    omega
  free := fun x hx => He.free_ok X G (fact_of c (List.mem_append_right _ (List.mem_append_right _ (List.mem_append_left _ (List.mem_map_of_mem (List.contains_iff_mem.mp hx))))))
  int := fun x i hx => He.int_ok X G (fact_of c (List.mem_append_right _ (List.mem_append_right _ (List.mem_append_right _ (List.mem_append_left _ (List.mem_map_of_mem (f := fun p : Str × Int => He.Fa.int p.1 p.2) (lookS hx)))))))
  str := fun x i hx => He.str_ok X G (fact_of c (List.mem_append_right _ (List.mem_append_right _ (List.mem_append_right _ (List.mem_append_right _ (List.mem_map_of_mem (f := fun p : Str × Str => He.Fa.str p.1 p.2) (lookS hx)))))))
  cls := fun x hx => He.glo_ok X G (fact_of c (List.mem_append_right _ (List.mem_append_left _ (List.mem_map_of_mem (List.contains_iff_mem.mp hx)))))
end
end Pur

/-! PurEnd: a law's end, from the Hook's facts and the interpreter's run. -/
namespace Pur
open
    PySem PySem.Spec PyProof.Rows L2
/-! ### shapes of the text -/
/-- an error's __init__ -/
structure InSh (d : InD) : Prop where
  ex : ∃ (p0 p1 apos cpos spos : Pos) (e : Expr) (es : List Expr) (rest : List Stmt) (ar : Arg) (pl : Env → Sem Bool), defBody d.st = .Expr (.Call (.Attribute (.Call (.Name "super" p0) [] [] p1) "__init__" apos) (e :: es) [] cpos) spos :: rest ∧
    ((defArgs d.st).posonlyargs ++ (defArgs d.st).args).head? = some ar ∧ ar.arg = "self" ∧ argsL ("self" :: d.fs) (defScope d.st) (e :: es) = some ((List.range d.fs.length).map (0 + 1 + ·)) ∧
    storesL ("self" :: d.fs) (defScope d.st) rest = some (((List.range d.fs.length).map (0 + 1 + ·)).zip d.fs) ∧
    ∀ env : Env, eval (.Call (.Attribute (.Call (.Name "super" p0) [] [] p1) "__init__" apos) (e :: es) [] cpos) env = (do
      let ov ← attributeBase (.Call (.Name "super" p0) [] [] p1) "__init__" env (eval (.Call (.Name "super" p0) [] [] p1) env)
      standAt apos.atName
      let (f, first) ← holding [ov] (getMethod ov "__init__" (pl env))
      callWith cpos f first (backTo cpos (starEach (e :: es) env)) [])
  sc : iScopeB ("self" :: d.fs) (defScope d.st) = true
  ne : d.fs ≠ []
  few : d.fs.length ≤ 900
  bp : ∀ (kV doc pm : Value) (an : Option Addr) (cdv ct : Value) (cc : Addr) (us : List Value), us.length = ("self" :: d.fs : List Str).length → bindArgs (PySem.W.ksFn "__init__" d.qual (defArgs d.st) (defBody d.st) (defScope d.st) .none kV doc pm an cdv ct cc) ⟨us, []⟩ = pure (("self" :: d.fs : List Str).zip us)
/-- _law_heard -/
structure HeSh (sh : Scope) (bh : List Stmt) : Prop where
  ex : ∃ (p1 p2 p3 p4 p5 p6 p7 np pos pos' : Pos) (st1 : Stmt) (rest : List Stmt), bh = st1 :: .Try [.Assign [.Name "found" p1] (.Call (.Name "ask" p2) [] [] p3) p4] [.ExceptHandler (some (.Name "WhomError" np)) (some "error") [.Assign [.Name "caught" p5] (.Name "error" p6) p7] pos'] [] [] pos :: rest ∧
    cS heardT heardN sh [] 40 st1 = some heardC0 ∧ mapO (cS heardT heardN sh [] 40) rest = some (heardC [6, 7])
  lc : sh.names.lookup ("caught" : Str) = some .local
  lf : sh.names.lookup ("found" : Str) = some .local
  le : sh.names.lookup ("error" : Str) = some .local
  lw : sh.names.lookup ("WhomError" : Str) = some .globalImplicit
  sc : fnScopeB heardN ["ask"] sh = true
/-- _law_pen -/
structure PenSh (sp : Scope) (bp : List Stmt) : Prop where
  ex : ∃ (p1 p2 p3 p4 p5 p6 p7 p8 p9 p10 p11 p12 p13 : Pos) (k1 k2 k3 : Nat) (scope : Scope), bp = [.Return (some (.List [.ListComp (.Call (.Name "int" p1) [.Name "cell" p2] [] p3) [⟨.Name "cell" p4, .Subscript (.Name "script" p5) (.Slice none (some (.Constant (.int 63) k1 p6)) none p12) p8, [], 0⟩] scope p9, .Constant (.int 0) k2 p10, .Constant (.int 0) k3 p13] p7)) p11] ∧
    glN (relS scope sp) "int" = true ∧ blkC penN sp scope (ownOf penN scope) = true ∧ ownOf penN scope = ([("cell", 1)] : List (Str × Nat)) ∧ locN scope "cell" = true ∧ visN (relS scope sp) "cell" = true
  ls : sp.names.lookup ("script" : Str) = some .local
  sc : fnScopeB penN ["script"] sp = true
/-- the law -/
structure LawSh (T : Tx) (N : List Str) (sl : Scope) (bl : List Stmt) (lawC : List CSt) : Prop where
  ex : ∃ (p1 p2 p3 p4 p5 : Pos) (rest : List Stmt), bl = .Assign [.Name "pen" p1] (.Call (.Name "_law_pen" p2) [.Name "script" p3] [] p4) p5 :: rest ∧ mapO (cS { T with lam := true, hk := heardHk } N sl (mutN 40 rest) 40) rest = some lawC
  pen : slotN N "pen" = some 1
  scr : slotN N "script" = some 0
  pl : sl.names.lookup ("pen" : Str) = some .local ∨ sl.names.lookup ("pen" : Str) = some .cell
  ls : locN sl "script" = true
  pg : glN sl "_law_pen" = true
  sc : fnScopeB N ["script"] sl = true
section
variable {T : Tx} {df : List Df} {P : Program} {w : World} {ins : List InD} {er : List Er} {tf : List He.Defn} {h : Heap} {K : PySem.W.Frag} {mg : Str → Option Value} {base : Heap}
def eiOf (er : List Er) : Ei := er.map fun p => (p.1, p.2.2)
theorem errs_of (X : K.In h) (G : h.Ns mainGlobals mg) (c : SaysP P (faOf T) (df.map Df.dd) ins er tf h K) (t : Txt T K mg) (sh : ∀ d ∈ ins, InSh d) (hcov : ∀ p ∈ er, ∃ d ∈ ins, d.cls = p.2.1 ∧ d.fs = p.2.2) (hcl : ∀ p ∈ er, T.clss.contains p.1 = true) :
    ∀ x fs, (eiOf er).lookup x = some fs → ErrK P w K mg base x fs := by
  intro x fs hx
  have hm := lookS hx
  obtain ⟨⟨x', dn, fs'⟩, hp, e⟩ := List.mem_map.mp hm
  cases e
  obtain ⟨d, hd, e1, e2⟩ := hcov _ hp
  dsimp only at e1 e2
  obtain ⟨EX, iC, tI⟩ := errB_ok (List.all_eq_true.mp c.e _ hp)
  have hfc : fnC K d.at_ = d.val := by
    obtain ⟨i, hi, ei⟩ := List.mem_iff_getElem.mp hd
    have e3 : (ins.map (fun d => fnC K d.at_))[i]? = (ins.map InD.val)[i]? := by rw [c.i]
    rw [List.getElem?_map, List.getElem?_map, List.getElem?_eq_getElem hi, ei] at e3
    exact Option.some.inj e3
  obtain ⟨oc, od, osl, kV, doc, pm, an, ct, cda, cc, lk, hcd, U⟩ := InD.fn hfc (List.all_eq_true.mp c.io _ hd)
  obtain ⟨p0, p1, apos, cpos, spos, ea, es, rest, ar, pl, hb, har, hself, hargs, hst, htree⟩ := (sh d hd).ex
  subst e1 e2
  have Sc := iScopeB_ok (sh d hd).sc
  have bp := (sh d hd).bp
  refine ⟨⟨He.ga K d.cls, He.fAd K d.at_, _, "self" :: d.fs, EX, iC, tI, Binds.all (fun us hl => bp kV doc pm an (.ref cda) ct cc us hl), rfl, fun CX => ?_⟩, (sh d hd).ne, (sh d hd).few, t.cls _ (hcl _ hp)⟩
  rw [hb] at lk ⊢
  exact init_ok lk hcd U Sc rfl (sh d hd).ne (sh d hd).few har (by rw [hself]; rfl) hargs hst (fun h' X' G' => PySem.W.mg_none_of X' G' U.sup) htree
variable {l : PySem.W.OpenLaw} {dl dp dh : Df} {lawC : List CSt} {n W : Nat} {fa : Addr}
theorem law_at (hP : l.prog = P) (X : K.In h) (G : h.Ns mainGlobals mg) (hfa : mg "law" = some (.ref fa)) (c : SaysP P (faOf T) (df.map Df.dd) ins er [("law", none)] h K) (hT : T.fns = df.map Df.fn) (hlam : T.lam = false) (hb : ∀ d ∈ df, d.Bp) (hs : df.all (fun d => fnScopeB d.fn.N d.fn.ps d.fn.scope) = true) (hkw : ∀ d ∈ df, ∀ ks ix, (d.fn.name, ks, ix) ∈ T.kws → d.Kp ks ix)
    (sh : ∀ d ∈ ins, InSh d) (hcov : ∀ p ∈ er, ∃ d ∈ ins, d.cls = p.2.1 ∧ d.fs = p.2.2) (hcl : ∀ p ∈ er, T.clss.contains p.1 = true) (herr : T.errs.all (fun x => ((eiOf er).lookup x).isSome) = true)
    (hdl : dl ∈ df) (nl : dl.fn.name = "law") (pl : dl.fn.ps = (["script"] : List Str)) (hdp : dp ∈ df) (np : dp.fn.name = "_law_pen") (pp : dp.fn.ps = (["script"] : List Str)) (hdh : dh ∈ df) (nh : dh.fn.name = "_law_heard") (ph : dh.fn.ps = (["ask"] : List Str))
    (SL : LawSh T dl.fn.N dl.fn.scope dl.fn.body lawC) (SP : PenSh dp.fn.scope dp.fn.body) (SH : HeSh dh.fn.scope dh.fn.body)
    (hcls : heardCl.all (fun x => T.clss.contains x) = true) (hwe : T.clss.contains "WhomError" = true) (hfr : T.free.contains "isinstance" = true ∧ T.free.contains "len" = true ∧ T.free.contains "int" = true)
    (hrun : ∀ cells : List Int, cells.length ≤ 63 → ∃ S', exs (callN T (fun x => (T.fn x).bind (compFn T)) (mkOf (eiOf er)) W n) (mkOf (eiOf er)) W lawC (none :: some (.val .pen) :: List.replicate (dl.fn.N.length - 2) none) ⟨0, 0, cells⟩ = .ok (.ret (.bl true)) S') :
    LamX.LawAtS l w K (L2.CX P w) (3 + n + 3) 63 "script" mg fa h := by
  have t := txt_of X G c hT hb hs hkw
  obtain ⟨fdl, Fl⟩ := fn_D c hdl
  obtain ⟨fdp, Fp⟩ := fn_D c hdp
  obtain ⟨fdh, Fh⟩ := fn_D c hdh
  have bl := fn_B (hb dl hdl) Fl
  have bp := fn_B (hb dp hdp) Fp
  have bh := fn_B (hb dh hdh) Fh
  have mem : ∀ {d : Df}, d ∈ df → d.fn ∈ T.fns := fun hd => by rw [hT]; exact List.mem_map_of_mem hd
  have ml := fn_mg X G c (mem hdl)
  have mp := fn_mg X G c (mem hdp)
  have mh := fn_mg X G c (mem hdh)
  have bindL : ∀ (s : Shared) (us : List Value), us.length = dl.fn.ps.length → BindsTo s fdl ⟨us, []⟩ (dl.fn.ps.zip us) := FunD.bindsA Fl fun _ _ _ _ _ _ us hl => hb dl hdl _ _ _ _ _ _ us hl
  rw [nl] at Fl ml
  rw [np] at Fp mp
  rw [nh] at Fh mh
  rw [pl] at bl bindL
  rw [pp] at bp
  rw [ph] at bh
  have efa : fa = He.ga K "law" := by rw [hfa] at ml; cases ml; rfl
  subst efa
  subst hP
  refine ⟨fdl, [He.cT K ("law", none)], spLaw K (He.cT K ("law", none)).2, fun p hp => ?_, fun p hp => ?_, fun p hp => ?_, fun s u => bindL s [u] rfl, fun H a ns h1 h2 h3 h4 => ⟨a, ns, rfl, h1, h4, h3 _ (List.mem_singleton_self _), fun _ => rfl⟩, fun base Xb Gb TB => ?_⟩
  · rw [List.mem_singleton.mp hp]; exact c.empty _ (List.mem_singleton_self _)
  · rw [List.mem_singleton.mp hp]; exact c.out _ (List.mem_singleton_self _)
  · rw [List.mem_singleton.mp hp]; exact PySem.W.codeHd_of_K X (c.hd _ (List.mem_singleton_self _))
  · have hE : ∀ x fs, (eiOf er).lookup x = some fs → ErrK l.prog w K mg base x fs := errs_of X G c t sh hcov hcl
    have hTe : ∀ x, T.errs.contains x = true → ∃ fs, (eiOf er).lookup x = some fs := fun x hx => Option.isSome_iff_exists.mp (List.all_eq_true.mp herr x (List.contains_iff_mem.mp hx))
    have R1 : RaisAll l.prog w K mg base T (mkOf (eiOf er)) 3 := rais_all (Nat.le_refl _) hTe hE
    have R2 : RaisAll l.prog w K mg base { T with lam := true, hk := heardHk } (mkOf (eiOf er)) 3 := rais_all (T := { T with lam := true, hk := heardHk }) (Nat.le_refl _) hTe hE
    obtain ⟨q1, q2, q3, q4, q5, rest, ebl, hC⟩ := SL.ex
    obtain ⟨r1, r2, r3, r4, r5, r6, r7, r8, r9, r10, r11, r12, r13, j1, j2, j3, scope, ebp, g1, g2, g3, g4, g5⟩ := SP.ex
    obtain ⟨s1, s2, s3, s4, s5, s6, s7, s8, s9, s10, st1, resth, ebh, hh0, hh1⟩ := SH.ex
    have PO := pen_ok (P := l.prog) (w := w) (mg := mg) (base := base) (by rw [ebp] at Fp; exact Fp) (fnScopeB_ok SP.sc) (t.free _ hfr.2.2) SP.ls g1 g2 g3 g4 g5
    have mcl : ∀ x, heardCl.contains x = true → mg x = some (.ref (He.ga K x)) := fun x hx => t.cls x (List.all_eq_true.mp hcls x (List.contains_iff_mem.mp hx))
    have Shs := fnScopeB_ok SH.sc
    rw [ebl] at Fl
    refine law_fn (T := T) (cd := fun x => (T.fn x).bind (compFn T)) (mk := mkOf (eiOf er)) (W := W) (k0 := 3) (n := n) t hlam (by decide) (fun x fn hx body hb' => by
        have hb' : (T.fn x).bind (compFn T) = some body := hb'
        rw [hx] at hb'; exact hb') R1 R2 Fl (fnScopeB_ok SL.sc) SL.pen SL.scr SL.pl SL.ls SL.pg hC (c := (He.cT K ("law", none)).1) (fun cdv hcdv => ?_)
      PO mp Fp.kp bp Fh bh Shs mh (fun X' g cdv q xK xmg xr hg => ?_) (TB _ (List.mem_singleton_self _)) hrun
    · obtain ⟨oc, od, dV, kV, doc, pm, an, cdv', ct, osl, rfl, lk, hcdq, _, _⟩ := Fl.ex
      obtain ⟨c0, rfl⟩ := He.codeIn_ref hcdq
      cases hcdv
      have lk' : K.lookup (He.fAd K (("law", none) : He.Defn)) = _ := lk
      have := He.codeOf_eq lk' (c := c0) rfl
      show Value.ref c0 = Value.ref (He.codeOf K ("law", none))
      rw [this]
    · subst xK xmg
      rw [ebh]
      exact heard_gives hg hh0 hh1 Shs.kind SH.lc SH.lf SH.le SH.lw (t.cls _ hwe) mcl (t.free _ hfr.1) (t.free _ hfr.2.1) xr (hear_all c.hr)
end
end Pur

/-! PurQ: running the interpreter by hand: comprehensions, loops, == of plain data, lists of places. -/
namespace Pur
open
    PySem PySem.Spec PyProof.Rows L2
/-! ### results -/
theorem bnd_okE {α β : Type} {m : M α} {f : α → M β} {s s' : Pn} {a : α} (h : m s = .ok a s') : bnd m f s = f a s' := by unfold bnd; rw [h]
theorem bnd_excE {α β : Type} {m : M α} {f : α → M β} {s s' : Pn} {c : Str} {fs : List (Str × D)} (h : m s = .exc c fs s') : bnd m f s = .exc c fs s' := by unfold bnd; rw [h]
theorem bnd_retE {α β : Type} {f : α → M β} {s : Pn} {a : α} : bnd (ret a) f s = f a s := rfl
theorem bnd_ofOE {α β : Type} {f : α → M β} {s : Pn} {a : α} : bnd (ofO (some a)) f s = f a s := rfl
theorem ofO_some {α : Type} {a : α} {s : Pn} : ofO (some a) s = .ok a s := rfl
theorem ret_E {α : Type} {a : α} {s : Pn} : ret a s = .ok a s := rfl
theorem bnd_some {α β : Type} {f : α → M β} {a : α} : bnd (ofO (some a)) f = f a := rfl
/-! ### comprehensions -/
theorem compGo_pure {body : D → M (Option D)} {r : D → Option D} {s : Pn} : ∀ {ds acc : List D}, (∀ d ∈ ds, body d s = .ok (r d) s) → compGo body ds acc s = .ok (acc ++ ds.filterMap r) s
  | [], acc, h => by simp [compGo, ret]
  | d :: ds, acc, h => by
    unfold compGo
    rw [bnd_okE (h d (List.mem_cons_self ..)), compGo_pure fun d hd => h d (List.mem_cons_of_mem _ hd)]
    cases e : r d with
    | none => simp [List.filterMap_cons, e]
    | some x => simp [List.filterMap_cons, e]
theorem compGo_map {body : D → M (Option D)} {r : D → D} {s : Pn} {ds acc : List D} (h : ∀ d ∈ ds, body d s = .ok (some (r d)) s) : compGo body ds acc s = .ok (acc ++ ds.map r) s := by
  rw [compGo_pure (r := fun d => some (r d)) h]
  simp
theorem noX_E {α : Type} {m : M α} {s s' : Pn} {a : α} (h : m s = .ok a s') : noX m s = .ok a s' := by unfold noX; rw [h]
/-! ### loops -/
theorem forGo_inv {body : D → Ev → M Fl} {I : Nat → Ev → Pn → Prop} : ∀ {ds : List D} {k : Nat} {δ : Ev} {s : Pn}, I k δ s → (∀ (i : Nat) (d : D) δ s, ds[i]? = some d → I (k + i) δ s → ∃ δ' s', body d δ s = .ok (.next δ') s' ∧ I (k + i + 1) δ' s') →
    ∃ δ' s', forGo body ds δ s = .ok (.next δ') s' ∧ I (k + ds.length) δ' s'
  | [], k, δ, s, h, st => ⟨δ, s, rfl, h⟩
  | d :: ds, k, δ, s, h, st => by
    obtain ⟨δ', s', e, h'⟩ := st 0 d δ s rfl h
    obtain ⟨δ'', s'', e2, h2⟩ := forGo_inv (k := k + 1) (ds := ds) h' fun i d' δ s hd hi => by
      have := st (i + 1) d' δ s (by simpa using hd) (by rw [show k + (i + 1) = k + 1 + i by omega]; exact hi)
      rw [show k + (i + 1) + 1 = k + 1 + i + 1 by omega] at this
      exact this
    refine ⟨δ'', s'', ?_, by rw [List.length_cons, show k + (ds.length + 1) = k + 1 + ds.length by omega]; exact h2⟩
    unfold forGo
    rw [bnd_okE e]
    exact e2
/-! ### == of plain data -/
mutual
theorem
    eqv_refl : ∀ d : PyData, d.canLay0 = true → PyData.eqv d d = true
  | .none, _ => by simp only [PyData.eqv]
  | .bool b, _ =>
        by simp [PyData.eqv]
  | .int i, _ =>
        by simp [PyData.eqv]
  | .str x, _ =>
        by simp [PyData.eqv]
  | .list xs, h => by
    simp only [PyData.canLay0] at h
    simp only [PyData.eqv]
    exact eqvAll_refl xs h
  | .tuple xs, h => by
    simp only [PyData.canLay0] at h
    simp only [PyData.eqv]
    exact eqvAll_refl xs h
  | .dict _, h => by simp [PyData.canLay0] at h
theorem eqvAll_refl : ∀ ds : List PyData, PyData.canLayAll0 ds = true → PyData.eqvAll ds ds = true
  | [], _ => by simp only [PyData.eqvAll]
  | d :: ds, h => by
    simp only [PyData.canLayAll0, Bool.and_eq_true] at h
    simp only [PyData.eqvAll, Bool.and_eq_true]
    exact ⟨eqv_refl d h.1, eqvAll_refl ds h.2⟩
end
theorem eqD_refl {d : D} {p : PyData} (h : D.py d = some p) (hs : SeqAt.shaped p = true) : eqD d d = some true := by
  unfold eqD
  simp only [h]
  rw [if_pos ⟨hs, hs⟩, eqv_refl p (SeqAt.canLay_of_shaped hs)]
/-! ### lists of places -/
theorem pys_ints : ∀ l : List Int, pys (l.map D.int) = some (l.map PyData.int)
  | [] => by simp [pys]
  | i :: l => by simp [pys, D.py, pys_ints l]
theorem py_ofInts (l : List Int) : D.py (ofInts l) = some (.tuple (l.map .int)) := by simp [ofInts, D.py, pys_ints]
theorem pys_places : ∀ L : List (List Int), pys (L.map ofInts) = some (L.map fun l => .tuple (l.map .int))
  | [] => by simp [pys]
  | l :: L => by simp [pys, py_ofInts, pys_places L]
theorem lay_ints : ∀ l : List Int, PyData.canLayAll0 (l.map .int) = true ∧ PyData.depthAll (l.map .int) = 0
  | [] => by simp [PyData.canLayAll0, PyData.depthAll]
  | i :: l => by simp [PyData.canLayAll0, PyData.canLay0, PyData.depthAll, PyData.depth, lay_ints l]
theorem lay_places : ∀ L : List (List Int), PyData.canLayAll0 (L.map fun l => .tuple (l.map .int)) = true ∧ PyData.depthAll (L.map fun l => .tuple (l.map .int)) ≤ 1
  | [] => by simp [PyData.canLayAll0, PyData.depthAll]
  | l :: L => by
    have h1 := lay_ints l
    have h2 := lay_places L
    refine ⟨?_, ?_⟩
    · simp [PyData.canLayAll0, PyData.canLay0, h1.1, h2.1]
    · simp only [List.map_cons, PyData.depthAll, PyData.depth, h1.2]
      omega
theorem eq_places (L : List (List Int)) : eqD (.tup (L.map ofInts)) (.tup (L.map ofInts)) = some true := by
  refine eqD_refl (p := .tuple (L.map fun l => .tuple (l.map .int))) (by simp [D.py, pys_places]) ?_
  have h := lay_places L
  have h2 := h.2
  refine Bool.and_eq_true_iff.mpr ⟨by simp only [PyData.canLay0]; exact h.1, decide_eq_true ?_⟩
  simp only [PyData.depth]
  exact Nat.le_trans (Nat.add_le_add_right h2 1) (by decide)
theorem eq_int (i j : Int) : eqD (.int i) (.int j) = some (decide (i = j)) := by
  unfold eqD
  simp [D.py, SeqAt.shaped, PyData.canLay0, PyData.depth, PyData.eqv]
  rfl
theorem ints_mapE : ∀ l : List Int, intsOf (l.map D.int) = some l
  | [] => rfl
  | i :: l => by simp [intsOf, ints_mapE l]
theorem blsOf_map : ∀ l : List Bool, blsOf (l.map D.bl) = some l
  | [] => rfl
  | i :: l => by simp [blsOf, blsOf_map l]
theorem tupInts_E {l : List Int} (h : l ≠ []) : tupInts (ofInts l) = some l := by simp [tupInts, ofInts, ints_mapE, h]
theorem tupsInts_of : ∀ {L : List (List Int)}, (∀ l ∈ L, l ≠ []) → tupsInts (L.map ofInts) = some L
  | [], _ => rfl
  | l :: L, h => by simp [tupsInts, tupInts_E (h l (List.mem_cons_self ..)), tupsInts_of fun m hm => h m (List.mem_cons_of_mem _ hm)]
theorem sorted_places {L : List (List Int)} (h : ∀ l ∈ L, l ≠ []) : biSorted (.lst (L.map ofInts)) = some (.lst ((srtT L).map ofInts)) := by simp [biSorted, tupsInts_of h]
theorem seqD_ofInts (l : List Int) : seqD (ofInts l) = some (l.map D.int) := rfl
/-! ### lists -/
theorem nodup_sub_len {α : Type} [DecidableEq α] : ∀ {l m : List α}, l.Nodup → (∀ x ∈ l, x ∈ m) → l.length ≤ m.length
  | [], m, _, _ => Nat.zero_le _
  | x :: l, m, nd, h => by
    have hx := h x (List.mem_cons_self ..)
    have ih := nodup_sub_len (l := l) (m := m.erase x) (List.nodup_cons.mp nd).2 fun y hy => by
      have hy' := h y (List.mem_cons_of_mem _ hy)
      have ne : y ≠ x := fun e => (List.nodup_cons.mp nd).1 (e ▸ hy)
      exact (List.mem_erase_of_ne ne).mpr hy'
    have := List.length_erase_of_mem hx
    have hpos : 0 < m.length := List.length_pos_of_mem hx
    rw [List.length_cons]
    omega
theorem perm_of_mem {α : Type} [DecidableEq α] {l m : List α} (nl : l.Nodup) (nm : m.Nodup) (h : ∀ x, x ∈ l ↔ x ∈ m) : l.Perm m := by
  rw [List.perm_iff_count]
  intro x
  by_cases hx : x ∈ l
  · rw [nl.count, nm.count]
    simp [hx, (h x).mp hx]
  · rw [List.count_eq_zero_of_not_mem hx, List.count_eq_zero_of_not_mem fun z => hx ((h x).mpr z)]
theorem srtT_perm_eq {L M : List (List Int)} (h : L.Perm M) : srtT L = srtT M := srt_uniq (srtT_srt L) (srtT_srt M) ((srtT_perm L).trans (h.trans (srtT_perm M).symm))
theorem srtT_mem {L : List (List Int)} {x : List Int} : x ∈ srtT L ↔ x ∈ L := (srtT_perm L).mem_iff
theorem srtT_nodup {L : List (List Int)} : (srtT L).Nodup ↔ L.Nodup := (srtT_perm L).nodup_iff
theorem srtT_len {L : List (List Int)} : (srtT L).length = L.length := (srtT_perm L).length_eq
theorem once_aux : ∀ {L acc : List (List Int)}, acc.Nodup → (L.foldl addOnce acc).Nodup ∧ ∀ x, x ∈ L.foldl addOnce acc ↔ x ∈ acc ∨ x ∈ L
  | [], acc, h => ⟨h, fun x => by simp⟩
  | l :: L, acc, h => by
    have ha : (addOnce acc l).Nodup ∧ ∀ x, x ∈ addOnce acc l ↔ x ∈ acc ∨ x = l := by
      unfold addOnce
      split
      · rename_i c
        refine ⟨h, fun x => ⟨.inl, fun q => q.elim id fun e => by subst e; exact List.contains_iff_mem.mp c⟩⟩
      · rename_i c
        have nc : l ∉ acc := fun q => c (List.contains_iff_mem.mpr q)
        refine ⟨List.nodup_append.mpr ⟨h, by simp, fun a ha b hb => by rw [List.mem_singleton.mp hb]; exact fun e => nc (e ▸ ha)⟩, fun x => by simp⟩
    obtain ⟨i1, i2⟩ := once_aux (L := L) ha.1
    refine ⟨i1, fun x => ?_⟩
    rw [List.foldl_cons, i2, ha.2, List.mem_cons, or_assoc]
theorem once_nodup (L : List (List Int)) : (once L).Nodup := (once_aux (L := L) (acc := []) List.nodup_nil).1
theorem once_memE {L : List (List Int)} {x : List Int} : x ∈ once L ↔ x ∈ L := by
  have := (once_aux (L := L) (acc := []) List.nodup_nil).2 x
  unfold once
  simpa using this
theorem once_len (L : List (List Int)) : (once L).length ≤ L.length := nodup_sub_len (once_nodup L) fun x hx => once_memE.mp hx
end Pur
namespace Pur
open
    PySem PySem.Spec PyProof.Rows L2
theorem ofO_ret {α : Type} {a : α} : ofO (some a) = ret a := rfl
theorem if_tt {α : Sort _} {a b : α} : (if true = true then a else b) = a := rfl
theorem if_ff {α : Sort _} {a b : α} : (if false = true then a else b) = b := rfl
theorem ev_ret {cs : CS} {c : CE} {ρ : List (Option D)} {k : D → M D} {d : D} (h : ev cs c ρ = ret d) : bnd (ev cs c ρ) k = k d := by rw [h]; rfl
end Pur
namespace Pur
open
    PySem PySem.Spec PyProof.Rows L2
theorem compGo_enc {α : Type} {body : D → M (Option D)} {enc : α → D} {r : α → Option D} {s : Pn} {xs : List α} {acc : List D} (h : ∀ x ∈ xs, body (enc x) s = .ok (r x) s) : compGo body (xs.map enc) acc s = .ok (acc ++ xs.filterMap r) s := by
  induction
      xs generalizing acc with
  | nil => simp [compGo, ret]
  | cons x xs ih =>
    rw [List.map_cons]
    unfold compGo
    rw [bnd_okE (h x (List.mem_cons_self ..)), ih fun y hy => h y (List.mem_cons_of_mem _ hy)]
    cases e : r x with
    | none => simp [List.filterMap_cons, e]
    | some y => simp [List.filterMap_cons, e]
theorem compGo_encM {α : Type} {body : D → M (Option D)} {enc : α → D} {r : α → D} {s : Pn} {xs : List α} {acc : List D} (h : ∀ x ∈ xs, body (enc x) s = .ok (some (r x)) s) : compGo body (xs.map enc) acc s = .ok (acc ++ xs.map r) s := by
  rw [compGo_enc (r := fun x => some (r x)) h]
  simp
theorem zip_ints : ∀ a b : List Int, zipD (a.map D.int) (b.map D.int) = (a.zip b).map fun q => D.tup [.int q.1, .int q.2]
  | [], b => by simp [zipD]
  | x :: a, [] => by simp [zipD]
  | x :: a, y :: b => by simp [zipD, zip_ints a b]
/-- a comprehension that lets nothing out -/
theorem bnd_lcE {β : Type} {body : D → M (Option D)} {ds : List D} {k : List D → M β} {s : Pn} {out : List D} (h : compGo body ds [] s = .ok out s) : bnd (noX (compGo body ds [])) k s = k out s := bnd_okE (noX_E h)
theorem all_bl (l : List Bool) : blsOf (l.map D.bl) = some l := blsOf_map l
end Pur
namespace Pur
open
    PySem PySem.Spec PyProof.Rows L2
theorem bls_map {α : Type} (f : α → Bool) : ∀ l : List α, blsOf (l.map fun x => D.bl (f x)) = some (l.map f)
  | [] => rfl
  | x :: l => by simp [blsOf, bls_map f l]
theorem all_map {α : Type} (f : α → Bool) (l : List α) : biD .all [.lst (l.map fun x => D.bl (f x))] = some (.bl (l.all f)) := by
  simp [biD, arg1, onBls, bls_map, Function.comp_def]
theorem any_map {α : Type} (f : α → Bool) (l : List α) : biD .any [.lst (l.map fun x => D.bl (f x))] = some (.bl (l.any f)) := by
  simp [biD, arg1, onBls, bls_map, Function.comp_def]
end Pur
namespace Pur
open
    PySem PySem.Spec PyProof.Rows L2
/-- a loop that folds -/
theorem forGo_fold {α β : Type} {body : D → Ev → M Fl} (enc : α → D) (step : β → α → β) (st : β → Ev → Prop) {s : Pn} {xs : List α} {b0 : β} {δ : Ev} (h0 : st b0 δ)
    (h : ∀ (pre : List α) (x : α) (post : List α), xs = pre ++ x :: post → ∀ δ, st (pre.foldl step b0) δ → ∃ δ', body (enc x) δ s = .ok (.next δ') s ∧ st (step (pre.foldl step b0) x) δ') :
    ∃ δ', forGo body (xs.map enc) δ s = .ok (.next δ') s ∧ st (xs.foldl step b0) δ' := by
  have gen : ∀ (post pre : List α) (δ : Ev), xs = pre ++ post → st (pre.foldl step b0) δ → ∃ δ', forGo body (post.map enc) δ s = .ok (.next δ') s ∧ st (xs.foldl step b0) δ' := by
    intro post
    induction post with
    | nil =>
      intro pre δ e hs
      rw [List.append_nil] at e
      subst e
      exact ⟨δ, rfl, hs⟩
    | cons x post ih =>
      intro pre δ e hs
      obtain ⟨δ1, e1, h1⟩ := h pre x post e δ hs
      obtain ⟨δ2, e2, h2⟩ := ih (pre ++ [x]) δ1 (by rw [e]; simp) (by rw [List.foldl_append]; exact h1)
      refine ⟨δ2, ?_, h2⟩
      rw [List.map_cons]
      unfold forGo
      rw [bnd_okE e1]
      exact e2
  exact gen xs [] δ rfl h0
theorem srtOnce_places {L : List (List Int)} (h : ∀ l ∈ L, l ≠ []) (hl : L.length < sizeLine) : srtOnce (L.map ofInts) = some (.lst ((srtT (once L)).map ofInts)) := by
  simp [srtOnce, tupsInts_of h, hl]
end Pur
namespace Pur
open
    PySem PySem.Spec PyProof.Rows L2
theorem frz_noown {l : List Nat} {δ : Ev} (h : ∀ i ∈ l, ownAt δ i = none) : frz l δ = δ := by
  unfold frz
  apply List.ext_getElem?
  intro i
  rw [List.getElem?_mapIdx]
  cases e : δ[i]? with
  | none => rfl
  | some o =>
    cases o with
    | none => rfl
    | some x =>
      cases x with
      | val d => rfl
      | own xs =>
        simp only [Option.map_some]
        by_cases c : i ∈ l
        · have := h i c
          unfold ownAt at this
          rw [e] at this
          cases this
        · have c' : l.contains i = false := by simpa using c
          rw [c']
          rfl
end Pur
namespace Pur
open
    PySem PySem.Spec PyProof.Rows L2
theorem frz_self {l : List Nat} {δ : Ev} (h : l.all (fun i => (ownAt δ i).isNone) = true) : frz l δ = δ := frz_noown fun i hi => by
  have := List.all_eq_true.mp h i hi
  simpa using this
end Pur
namespace Pur
open
    PySem PySem.Spec PyProof.Rows L2
def vw1 (b : Bool) (x : Option Sl) : Option D := match x with
  | some (.val d) => some d
  | some (.own xs) => if b = true then some (.lst xs) else none
  | none => none
def vwA : Nat → List Nat → Ev → List (Option D)
  | _, _, [] => []
  | k, l, x :: δ => vw1 (l.contains k) x :: vwA (k + 1) l δ
def frz1 (b : Bool) (x : Option Sl) : Option Sl := match x with
  | some (.own xs) => if b = true then some (.val (.lst xs)) else some (.own xs)
  | o => o
def frzA : Nat → List Nat → Ev → Ev
  | _, _, [] => []
  | k, l, x :: δ => frz1 (l.contains k) x :: frzA (k + 1) l δ
theorem vwA_get : ∀ (δ : Ev) (k i : Nat) (l : List Nat), (vwA k l δ)[i]? = (δ[i]?).map (vw1 (l.contains (k + i)))
  | [], k, i, l => by simp [vwA]
  | x :: δ, k, 0, l => by simp [vwA]
  | x :: δ, k, i + 1, l => by
    simp only [vwA, List.getElem?_cons_succ]
    rw [vwA_get δ (k + 1) i l, show k + 1 + i = k + (i + 1) by omega]
theorem vw_A (l : List Nat) (δ : Ev) : vw l δ = vwA 0 l δ := by
  apply List.ext_getElem?
  intro i
  rw [vwA_get]
  unfold vw
  rw [List.getElem?_mapIdx, Nat.zero_add]
  cases δ[i]? with
  | none => rfl
  | some x => cases x with
    | none => rfl
    | some y => cases y <;> rfl
theorem frzA_get : ∀ (δ : Ev) (k i : Nat) (l : List Nat), (frzA k l δ)[i]? = (δ[i]?).map (frz1 (l.contains (k + i)))
  | [], k, i, l => by simp [frzA]
  | x :: δ, k, 0, l => by simp [frzA]
  | x :: δ, k, i + 1, l => by
    simp only [frzA, List.getElem?_cons_succ]
    rw [frzA_get δ (k + 1) i l, show k + 1 + i = k + (i + 1) by omega]
theorem frz_A (l : List Nat) (δ : Ev) : frz l δ = frzA 0 l δ := by
  apply List.ext_getElem?
  intro i
  rw [frzA_get]
  unfold frz
  rw [List.getElem?_mapIdx, Nat.zero_add]
  cases δ[i]? with
  | none => rfl
  | some x => cases x with
    | none => rfl
    | some y => cases y <;> rfl
theorem frz1_f (x : Option Sl) : frz1 false x = x := by
  cases x with
  | none => rfl
  | some y => cases y <;> rfl
theorem frz1_v (b : Bool) (d : D) : frz1 b (some (.val d)) = some (.val d) := rfl
theorem frz1_n (b : Bool) : frz1 b none = none := rfl
theorem frz1_o (xs : List D) : frz1 true (some (.own xs)) = some (.val (.lst xs)) := rfl
theorem vw1_v (b : Bool) (d : D) : vw1 b (some (.val d)) = some d := rfl
theorem vw1_o (xs : List D) : vw1 true (some (.own xs)) = some (.lst xs) := rfl
theorem atI_nat {α : Type} {xs : List α} {k : Nat} (h : k < xs.length) : L2.atI xs (k : Int) = xs[k]? := by
  unfold L2.atI L2.ixN
  rw [if_pos (Int.natCast_nonneg k), if_pos (by omega)]
  rfl
/-! ### slices -/
theorem cut_lo {α : Type} (xs : List α) (k : Nat) : cutL xs none (some (k : Int)) = xs.take k := by
  unfold cutL
  rw [HT.sIx_none, HT.sIx_nat, Nat.sub_zero, List.drop_zero]
  by_cases h : k ≤ xs.length
  · rw [Nat.min_eq_left h]
  · rw [Nat.min_eq_right (by omega), List.take_length, List.take_of_length_le (by omega)]
theorem cut_hi {α : Type} (xs : List α) (k : Nat) : cutL xs (some (k : Int)) none = xs.drop k := by
  unfold cutL
  rw [HT.sIx_none, HT.sIx_nat]
  by_cases h : k ≤ xs.length
  · rw [Nat.min_eq_left h]
    exact List.take_of_length_le (by rw [List.length_drop]; exact Nat.le_refl _)
  · rw
        [Nat.min_eq_right (by omega), List.drop_of_length_le (Nat.le_refl _), List.drop_of_length_le (by omega)]
    simp
/-- enumerate -/
def enumI : Nat → List Int → List (Nat × Int)
  | _, [] => []
  | k, x :: l => (k, x) :: enumI (k + 1) l
theorem enum_ints : ∀ (l : List Int) (k : Nat), enumD k (l.map D.int) = (enumI k l).map fun q => D.tup [.int (q.1 : Int), .int q.2]
  | [], k => rfl
  | x :: l, k => by simp [enumD, enumI, enum_ints l (k + 1)]
end Pur
namespace Pur
open
    PySem PySem.Spec PyProof.Rows L2
theorem exs_next {cs : CS} {mk : MkE} {W : Nat} {st : CSt} {r : List CSt} {δ δ' : Ev} {s s' : Pn} (h : ex cs mk W st δ s = .ok (.next δ') s') : exs cs mk W (st :: r) δ s = exs cs mk W r δ' s' := by
  simp only [exs]
  rw [bnd_okE h]
theorem exs_exc {cs : CS} {mk : MkE} {W : Nat} {st : CSt} {r : List CSt} {δ : Ev} {s s' : Pn} {c : Str} {fs : List (Str × D)} (h : ex cs mk W st δ s = .exc c fs s') : exs cs mk W (st :: r) δ s = .exc c fs s' := by
  simp only [exs]
  rw [bnd_excE h]
theorem exs_ret {cs : CS} {mk : MkE} {W : Nat} {st : CSt} {r : List CSt} {δ : Ev} {s s' : Pn} {d : D} (h : ex cs mk W st δ s = .ok (.ret d) s') : exs cs mk W (st :: r) δ s = .ok (.ret d) s' := by
  simp only [exs]
  rw [bnd_okE h]
  rfl
theorem exs_nilE {cs : CS} {mk : MkE} {W : Nat} {δ : Ev} {s : Pn} : exs cs mk W [] δ s = .ok (.next δ) s := by simp only [exs]; rfl
theorem runFn_ret {cs : CS} {mk : MkE} {W n : Nat} {body : List CSt} {ds : List D} {s s' : Pn} {d : D} (h : exs cs mk W body (ds.map (fun d => some (.val d)) ++ List.replicate (n - ds.length) none) s = .ok (.ret d) s') : runFn cs mk W n body ds s = .ok d s' := by
  unfold runFn
  rw [bnd_okE h]
  rfl
theorem runFn_exc {cs : CS} {mk : MkE} {W n : Nat} {body : List CSt} {ds : List D} {s s' : Pn} {c : Str} {fs : List (Str × D)} (h : exs cs mk W body (ds.map (fun d => some (.val d)) ++ List.replicate (n - ds.length) none) s = .exc c fs s') : runFn cs mk W n body ds s = .exc c fs s' := by
  unfold runFn
  rw [bnd_excE h]
end Pur
namespace Pur
open
    PySem PySem.Spec PyProof.Rows L2
theorem ixM_tup {xs : List D} {i : Int} : ixM (.tup xs) (.int i) = ofO (L2.atI xs i) := rfl
theorem ixM_lst {xs : List D} {i : Int} : ixM (.lst xs) (.int i) = ofO (L2.atI xs i) := rfl
theorem at_ints {w : List Int} {k : Nat} (h : k < w.length) : L2.atI (w.map D.int) (k : Int) = some (.int w[k]) := by
  rw [atI_nat (by rw [List.length_map]; exact h), List.getElem?_map, List.getElem?_eq_getElem h]
  rfl
end Pur
namespace Pur
open
    PySem PySem.Spec PyProof.Rows L2
theorem bnd_pen0 {β : Type} {k : D → M β} {s : Pn} : bnd (ixM .pen (.int 0)) k s = k (.lst (s.cells.map D.int)) s := rfl
theorem bnd_pen1 {β : Type} {k : D → M β} {s : Pn} : bnd (ixM .pen (.int 1)) k s = k (.int s.at_) s := rfl
theorem bnd_pen2 {β : Type} {k : D → M β} {s : Pn} : bnd (ixM .pen (.int 2)) k s = k (.int s.rest) s := rfl
theorem bnd_set1 {β : Type} {z : Int} {k : Unit → M β} {s : Pn} : bnd (penSet (.int 1) (.int z)) k s = k () { s with at_ := z } := rfl
theorem bnd_set2 {β : Type} {z : Int} {k : Unit → M β} {s : Pn} : bnd (penSet (.int 2) (.int z)) k s = k () { s with rest := z } := rfl
theorem eq_lstNil (l : List Int) : eqD (.lst (l.map D.int)) (.lst []) = some (decide (l = [])) := by
  unfold eqD
  have h := lay_ints l
  have e1 : SeqAt.shaped (.list (l.map PyData.int)) = true := by
    refine Bool.and_eq_true_iff.mpr ⟨by simp only [PyData.canLay0]; exact h.1, decide_eq_true ?_⟩
    simp only [PyData.depth]
    rw [h.2]
    decide
  have e2 : SeqAt.shaped (.list []) = true := by kernel_rfl
  simp only [D.py, pys_ints, pys, Option.map_some]
  rw [if_pos ⟨e1, e2⟩]
  cases l with
  | nil => simp [PyData.eqv, PyData.eqvAll]
  | cons x l => simp [PyData.eqv, PyData.eqvAll]
end Pur
namespace Pur
open
    PySem PySem.Spec PyProof.Rows L2
theorem sz_int {k : Nat} (h : k ≤ 1000000) : (k : Int) ≤ (sizeLine : Int) := by
  have : k ≤ sizeLine := by rw [sizeLine_eq]; omega
  exact Int.ofNat_le.mpr this
theorem rng1_ok {k : Nat} (h : k ≤ 1000000) : rng1D (.int (k : Int)) = some (rangeD 0 (k : Int)) := by
  have hin : inR (k : Int) = true := by
    unfold inR
    rw
        [Bool.and_eq_true, decide_eq_true_eq, decide_eq_true_eq]
    omega
  have hz := sz_int h
  unfold rng1D
  simp only
  rw [if_pos ⟨hin, hz⟩]
end Pur
namespace Pur
open
    PySem PySem.Spec PyProof.Rows L2
theorem len_lst (xs : List D) : biD .len [.lst xs] = some (.int (xs.length : Int)) := rfl
theorem len_tup (xs : List D) : biD .len [.tup xs] = some (.int (xs.length : Int)) := rfl
theorem rng1_bnd {β : Type} {k : Nat} {f : List D → M β} (h : k ≤ 1000000) : bnd (ofO (rng1D (.int (k : Int)))) f = f (rangeD 0 (k : Int)) := by rw [rng1_ok h]; rfl
end Pur

/-! PurQ2: expressions and statements, by their parts. -/
namespace Pur
open
    PySem PySem.Spec PyProof.Rows L2
section
variable {cs : CS} {ρ : List (Option D)} {s s1 s2 : Pn} {a b c e : CE} {x y z d : D}
theorem qe_var {i : Nat} (h : (ρ[i]?).join = some d) : ev cs (.var i) ρ s = .ok d s := by simp only [ev, h]; rfl
theorem qe_const : ev cs (.const d) ρ s = .ok d s := by simp only [ev]; rfl
theorem qe_bin {op : Operator} (h1 : ev cs a ρ s = .ok x s1) (h2 : ev cs b ρ s1 = .ok y s2) (h : binD op x y = some z) : ev cs (.bin op a b) ρ s = .ok z s2 := by
  simp only [ev]; rw [bnd_okE h1, bnd_okE h2, h]; rfl
theorem qe_cmp {op : CmpOp} {k : Bool} (h1 : ev cs a ρ s = .ok x s1) (h2 : ev cs b ρ s1 = .ok y s2) (h : cmpD op x y = some k) : ev cs (.cmp op a b) ρ s = .ok (.bl k) s2 := by
  simp only [ev]; rw [bnd_okE h1, bnd_okE h2, h]; rfl
theorem qe_call {f : Str} {args : List CE} {ds : List D} {r} (h1 : evs cs args ρ s = .ok ds s1) (h : cs f ds s1 = r) : ev cs (.call f args) ρ s = r := by
  simp only [ev]; rw [bnd_okE h1]; exact h
theorem qe_bi {f : Bi} {args : List CE} {ds : List D} (h1 : evs cs args ρ s = .ok ds s1) (h : biD f ds = some d) : ev cs (.bi f args) ρ s = .ok d s1 := by
  simp only [ev]; rw [bnd_okE h1, h]; rfl
theorem qe_tup {args : List CE} {ds : List D} (h1 : evs cs args ρ s = .ok ds s1) : ev cs (.tup args) ρ s = .ok (.tup ds) s1 := by
  simp only [ev]; rw [bnd_okE h1]; rfl
theorem qe_lst {args : List CE} {ds : List D} (h1 : evs cs args ρ s = .ok ds s1) : ev cs (.lst args) ρ s = .ok (.lst ds) s1 := by
  simp only [ev]; rw [bnd_okE h1]; rfl
theorem qe_nil : evs cs [] ρ s = .ok [] s := by simp only [evs]; rfl
theorem qe_cons {args : List CE} {ds : List D} (h1 : ev cs a ρ s = .ok x s1) (h2 : evs cs args ρ s1 = .ok ds s2) : evs cs (a :: args) ρ s = .ok (x :: ds) s2 := by
  simp only [evs]; rw [bnd_okE h1, bnd_okE h2]; rfl
theorem qe_one (h1 : ev cs a ρ s = .ok x s1) : evs cs [a] ρ s = .ok [x] s1 := qe_cons h1 qe_nil
theorem qe_two (h1 : ev cs a ρ s = .ok x s1) (h2 : ev cs b ρ s1 = .ok y s2) : evs cs [a, b] ρ s = .ok [x, y] s2 := qe_cons h1 (qe_one h2)
theorem qe_ix {r} (h1 : ev cs a ρ s = .ok x s1) (h2 : ev cs b ρ s1 = .ok y s2) (h : ixM x y s2 = r) : ev cs (.ix a b) ρ s = r := by
  simp only [ev]; rw [bnd_okE h1, bnd_okE h2]; exact h
theorem qe_orF {r} (h1 : ev cs a ρ s = .ok x s1) (t : truD x = some false) (h : ev cs b ρ s1 = r) : ev cs (.or a b) ρ s = r := by
  simp only [ev]; rw [bnd_okE h1, t]; exact h
theorem qe_andF (h1 : ev cs a ρ s = .ok x s1) (t : truD x = some false) : ev cs (.and a b) ρ s = .ok x s1 := by
  simp only [ev]; rw [bnd_okE h1, t]; rfl
theorem qe_andT {r} (h1 : ev cs a ρ s = .ok x s1) (t : truD x = some true) (h : ev cs b ρ s1 = r) : ev cs (.and a b) ρ s = r := by
  simp only [ev]; rw [bnd_okE h1, t]; exact h
theorem qe_iteT {r} (h1 : ev cs c ρ s = .ok x s1) (t : truD x = some true) (h : ev cs a ρ s1 = r) : ev cs (.ite c a b) ρ s = r := by
  simp only [ev]; rw [bnd_okE h1, t]; exact h
theorem qe_iteF {r} (h1 : ev cs c ρ s = .ok x s1) (t : truD x = some false) (h : ev cs b ρ s1 = r) : ev cs (.ite c a b) ρ s = r := by
  simp only [ev]; rw [bnd_okE h1, t]; exact h
theorem qe_chF {op op' : CmpOp} (h1 : ev cs a ρ s = .ok x s1) (h2 : ev cs b ρ s1 = .ok y s2) (h : cmpD op x y = some false) : ev cs (.chain op op' a b c) ρ s = .ok (.bl false) s2 := by
  simp only [ev]; rw [bnd_okE h1, bnd_okE h2, h]; rfl
theorem qe_chT {op op' : CmpOp} {s3 : Pn} {k : Bool} (h1 : ev cs a ρ s = .ok x s1) (h2 : ev cs b ρ s1 = .ok y s2) (h : cmpD op x y = some true) (h3 : ev cs c ρ s2 = .ok z s3) (h4 : cmpD op' y z = some k) : ev cs (.chain op op' a b c) ρ s = .ok (.bl k) s3 := by
  simp only [ev]; rw [bnd_okE h1, bnd_okE h2, h, bnd_ofOE, if_pos rfl, bnd_okE h3, h4]; rfl
theorem qe_lc {own : List Nat} {tg : CT} {it elt : CE} {ifs : List CE} {ds out : List D} (h1 : evI cs it ρ s = .ok ds s1) (h : compGo (fun d => bnd (ofO (bindT tg d (wipeD ρ own))) fun ρ' => bnd (evTs cs ifs ρ') fun c => if c = true then bnd (ev cs elt ρ') fun x => ret (some x) else ret none) ds [] s1 = .ok out s2) :
    ev cs (.lc own tg it ifs elt) ρ s = .ok (.lst out) s2 := by
  simp only [ev]; rw [bnd_okE h1, bnd_okE (noX_E h)]; rfl
theorem qe_val {ds : List D} (h1 : ev cs a ρ s = .ok x s1) (h : seqD x = some ds) : evI cs (.iVal a) ρ s = .ok ds s1 := by
  simp only [evI]; rw [bnd_okE h1, h]; rfl
theorem qe_rng {ds : List D} (h1 : ev cs a ρ s = .ok x s1) (h : rng1D x = some ds) : evI cs (.iRng1 a) ρ s = .ok ds s1 := by
  simp only [evI]; rw [bnd_okE h1, h]; rfl
theorem qe_heard {hk : List (Str × Str × List Str)} {k : Str} {fs : List (Str × D)} (h1 : ev cs e ρ s = .exc k fs s1) (h : heardD hk k fs = some d) : ev cs (.heard hk e) ρ s = .ok d s1 := by
  simp only [ev, heardM, h1, h]; rfl
end
section
variable {cs : CS} {mk : MkE} {W : Nat} {δ δ' : Ev} {s s1 : Pn} {e : CE} {d : D}
theorem qs_evS (h : ev cs e (vw (men e) δ) s = .ok d s1) (hf : frz (men e) δ = δ) : evS cs e δ s = .ok (d, δ) s1 := by
  unfold evS
  rw [bnd_okE h, hf]
  simp [ret_E]
theorem qs_asg {t : CT} (h : ev cs e (vw (men e) δ) s = .ok d s1) (hf : frz (men e) δ = δ) (hb : bindS t d δ = some δ') : ex cs mk W (.asg t e) δ s = .ok (.next δ') s1 := by
  simp only [ex]
  rw [bnd_okE (qs_evS h hf), hb]
  rfl
theorem qs_ret (h : ev cs e (vw (men e) δ) s = .ok d s1) (hf : frz (men e) δ = δ) : ex cs mk W (.ret e) δ s = .ok (.ret d) s1 := by
  simp only [ex]
  rw [bnd_okE (qs_evS h hf)]
  rfl
theorem qs_iteF {a : List CSt} (h : ev cs e (vw (men e) δ) s = .ok d s1) (t : truD d = some false) : ex cs mk W (.ite e a []) δ s = .ok (.next δ) s1 := by
  have h2 : evTS cs e δ s = .ok false s1 := by unfold evTS; rw [bnd_okE h, t]; rfl
  simp only [ex]
  rw [bnd_okE h2, if_neg (by simp)]
  simp only [exs]
  rfl
theorem vw_at {l : List Nat} {i : Nat} (h : δ[i]? = some (some (.val d))) : ((vw l δ)[i]?).join = some d := by
  unfold vw
  rw [List.getElem?_mapIdx, h]
  rfl
theorem ne_places (L : List (List Int)) : cmpD .NotEq (.tup (L.map ofInts)) (.tup (L.map ofInts)) = some false := by
  show (eqD (.tup (L.map ofInts)) (.tup (L.map ofInts))).map (!·) = some false
  rw [eq_places]
  rfl
theorem exs_app {cs : CS} {mk : MkE} {W : Nat} : ∀ {l r : List CSt} {δ δ' : Ev} {s s' : Pn}, exs cs mk W l δ s = .ok (.next δ') s' → exs cs mk W (l ++ r) δ s = exs cs mk W r δ' s'
  | [], r, δ, δ', s, s', h => by
    simp only [exs] at h
    cases h
    rfl
  | st :: l, r, δ, δ', s, s', h => by
    simp only [exs] at h
    show exs cs mk W (st :: (l ++ r)) δ s = _
    simp only [exs]
    unfold bnd at h ⊢
    split at h
    · rename_i fl s1 e1
      dsimp only at h ⊢
      cases fl with
      | next d1 => exact exs_app h
      | ret d => cases h
      | brk d1 => cases h
      | cont d1 => cases h
    · cases h
    · cases h
end
end Pur

/-! PurQ3: comprehensions by their parts, calls by keywords, == of places. -/
namespace Pur
open
    PySem PySem.Spec PyProof.Rows L2
/-! ### == -/
theorem eqv_ints : ∀ a b : List Int, PyData.eqvAll (a.map .int) (b.map .int) = decide (a = b)
  | [], [] =>
        by simp [PyData.eqvAll]
  | [], _ :: _ =>
        by simp [PyData.eqvAll]
  | _ :: _, [] =>
        by simp [PyData.eqvAll]
  | x :: a, y :: b => by
    rw
        [List.map_cons, List.map_cons]
    simp only [PyData.eqvAll, PyData.eqv, eqv_ints a b]
    by_cases h : x = y <;> simp [h]
theorem eqv_places : ∀ a b : List (List Int), PyData.eqvAll (a.map fun l => .tuple (l.map .int)) (b.map fun l => .tuple (l.map .int)) = decide (a = b)
  | [], [] =>
        by simp [PyData.eqvAll]
  | [], _ :: _ =>
        by simp [PyData.eqvAll]
  | _ :: _, [] =>
        by simp [PyData.eqvAll]
  | x :: a, y :: b => by
    rw
        [List.map_cons, List.map_cons]
    simp only [PyData.eqvAll, PyData.eqv, eqv_ints, eqv_places a b]
    by_cases h : x = y <;> simp [h]
theorem shp_ints (l : List Int) : SeqAt.shaped (.tuple (l.map .int)) = true := by
  have h := lay_ints l
  refine Bool.and_eq_true_iff.mpr ⟨by simp only [PyData.canLay0]; exact h.1, decide_eq_true ?_⟩
  simp only [PyData.depth, h.2]
  decide
theorem shp_places (L : List (List Int)) : SeqAt.shaped (.tuple (L.map fun l => .tuple (l.map .int))) = true ∧ SeqAt.shaped (.list (L.map fun l => .tuple (l.map .int))) = true := by
  have h := lay_places L
  have h2 : PyData.depthAll (L.map fun l => .tuple (l.map .int)) + 1 ≤ 2 := Nat.add_le_add_right h.2 1
  refine ⟨Bool.and_eq_true_iff.mpr ⟨by simp only [PyData.canLay0]; exact h.1, decide_eq_true ?_⟩, Bool.and_eq_true_iff.mpr ⟨by simp only [PyData.canLay0]; exact h.1, decide_eq_true ?_⟩⟩ <;>
  · simp only [PyData.depth]
    exact Nat.le_trans h2 (by decide)
theorem eq_ofInts (a b : List Int) : eqD (ofInts a) (ofInts b) = some (decide (a = b)) := by
  unfold eqD
  simp only [py_ofInts]
  rw [if_pos ⟨shp_ints a, shp_ints b⟩]
  simp only [PyData.eqv, eqv_ints]
theorem ne_ofInts (a b : List Int) : cmpD .NotEq (ofInts a) (ofInts b) = some (!decide (a = b)) := by
  show (eqD _ _).map (!·) = _
  rw [eq_ofInts]; rfl
theorem eq_lstP (a b : List (List Int)) : eqD (.lst (a.map ofInts)) (.lst (b.map ofInts)) = some (decide (a = b)) := by
  unfold eqD
  simp only [D.py, pys_places, Option.map_some]
  rw [if_pos ⟨(shp_places a).2, (shp_places b).2⟩]
  simp only [PyData.eqv, eqv_places]
theorem ne_lstP (a b : List (List Int)) : cmpD .NotEq (.lst (a.map ofInts)) (.lst (b.map ofInts)) = some (!decide (a = b)) := by
  show (eqD _ _).map (!·) = _
  rw [eq_lstP]; rfl
theorem ne_tupP (a b : List (List Int)) : cmpD .NotEq (.tup (a.map ofInts)) (.tup (b.map ofInts)) = some (!decide (a = b)) := by
  show (eqD _ _).map (!·) = _
  unfold eqD
  simp only [D.py, pys_places, Option.map_some]
  rw [if_pos ⟨(shp_places a).1, (shp_places b).1⟩]
  simp only [PyData.eqv, eqv_places, Option.map_some]
section
variable {cs : CS} {ρ : List (Option D)} {s s1 s2 : Pn} {a b c e it elt : CE} {x y z d : D} {ifs : List CE} {own : List Nat}
theorem qt_nil : evTs cs [] ρ s = .ok true s := by simp only [evTs]; rfl
theorem qt_one {k : Bool} (h : ev cs c ρ s = .ok x s1) (t : truD x = some k) : evTs cs [c] ρ s = .ok k s1 := by
  simp only [evTs]; rw [bnd_okE h, t]; rfl
theorem qe_not {k : Bool} (h : ev cs a ρ s = .ok x s1) (t : truD x = some k) : ev cs (.not a) ρ s = .ok (.bl (!k)) s1 := by
  simp only [ev]; rw [bnd_okE h, t]; rfl
theorem qe_isN (h : ev cs a ρ s = .ok x s1) : ev cs (.isN a) ρ s = .ok (.bl (isNon x)) s1 := by
  simp only [ev]; rw [bnd_okE h]; rfl
theorem qe_rev (h : ev cs a ρ s = .ok x s1) (t : revD x = some d) : ev cs (.rev a) ρ s = .ok d s1 := by
  simp only [ev]; rw [bnd_okE h, t]; rfl
theorem qe_srtSet (h : ev cs a ρ s = .ok x s1) (t : srtSetD x = some d) : ev cs (.srtSet a) ρ s = .ok d s1 := by
  simp only [ev]; rw [bnd_okE h, t]; rfl
theorem qe_dict0 : ev cs .dict0 ρ s = .ok .dic s := by simp only [ev]; rfl
theorem qe_orT (h1 : ev cs a ρ s = .ok x s1) (t : truD x = some true) : ev cs (.or a b) ρ s = .ok x s1 := by
  simp only [ev]; rw [bnd_okE h1, t]; rfl
theorem qe_callK {f : Str} {ix : List Nat} {args : List CE} {ds es : List D} {r} (h1 : evs cs args ρ s = .ok ds s1) (hm : mapO (fun i => ds[i]?) ix = some es) (h : cs f es s1 = r) : ev cs (.callK f ix args) ρ s = r := by
  simp only [ev]; rw [bnd_okE h1, hm, bnd_ofOE]; exact h
theorem qe_callV {i : Nat} {f : Str} {ok : List Str} {args : List CE} {ds : List D} {r} (hv : (ρ[i]?).join = some (.fn f)) (hf : ok.contains f = true) (h1 : evs cs args ρ s = .ok ds s1) (h : cs f ds s1 = r) : ev cs (.callV i ok args) ρ s = r := by
  simp only [ev]; rw [hv, bnd_ofOE, fnD, if_pos hf, bnd_ofOE, bnd_okE h1]; exact h
theorem qe_zip {xs ys : List D} (h1 : ev cs a ρ s = .ok x s1) (h2 : ev cs b ρ s1 = .ok y s2) (hx : seqD x = some xs) (hy : seqD y = some ys) : evI cs (.iZip a b) ρ s = .ok (zipD xs ys) s2 := by
  simp only [evI]; rw [bnd_okE h1, bnd_okE h2, hx, hy]; rfl
theorem qe_enum {xs : List D} (h1 : ev cs a ρ s = .ok x s1) (hx : seqD x = some xs) : evI cs (.iEnum a) ρ s = .ok (enumD 0 xs) s1 := by
  simp only [evI]; rw [bnd_okE h1, hx]; rfl
/-- [g x for x in xs if f x], the target any -/
theorem qe_lcT {α : Type} {tg : CT} {enc : α → D} {xs : List α} {f : α → Bool} {g : α → D} {ρ' : α → List (Option D)} (h1 : evI cs it ρ s = .ok (xs.map enc) s1) (hb : ∀ x ∈ xs, bindT tg (enc x) (wipeD ρ own) = some (ρ' x))
    (ht : ∀ x ∈ xs, evTs cs ifs (ρ' x) s1 = .ok (f x) s1) (he : ∀ x ∈ xs, f x = true → ev cs elt (ρ' x) s1 = .ok (g x) s1) : ev cs (.lc own tg it ifs elt) ρ s = .ok (.lst ((xs.filter f).map g)) s1 := by
  refine qe_lc h1 ((compGo_enc (r := fun x => if f x = true then some (g x) else none) fun x hx => ?_).trans ?_)
  · rw [hb x hx, bnd_ofOE, bnd_okE (ht x hx)]
    by_cases c : f x = true
    · rw [if_pos c, if_pos c, bnd_okE (he x hx c)]; rfl
    · rw [if_neg c, if_neg c]; rfl
  · rw [List.nil_append]
    congr 1
    clear h1 hb ht he
    induction xs with
    | nil => rfl
    | cons x xs ih =>
      rw [List.filterMap_cons, List.filter_cons]
      by_cases c : f x = true
      · simp only [c, if_true, List.map_cons, ih]
      · simp only [c, if_false, Bool.false_eq_true, ih]
theorem qe_lcF {α : Type} {i : Nat} {enc : α → D} {xs : List α} {f : α → Bool} {g : α → D} (h1 : evI cs it ρ s = .ok (xs.map enc) s1) (hi : i < ρ.length) (ht : ∀ x ∈ xs, evTs cs ifs ((wipeD ρ own).set i (some (enc x))) s1 = .ok (f x) s1)
    (he : ∀ x ∈ xs, f x = true → ev cs elt ((wipeD ρ own).set i (some (enc x))) s1 = .ok (g x) s1) : ev cs (.lc own (.v i) it ifs elt) ρ s = .ok (.lst ((xs.filter f).map g)) s1 :=
  qe_lcT (ρ' := fun x => (wipeD ρ own).set i (some (enc x))) h1 (fun x _ => by unfold bindT; rw [if_pos (by rw [wipeD_len]; exact hi)]) ht he
theorem qe_lcM {α : Type} {i : Nat} {enc : α → D} {xs : List α} {g : α → D} (h1 : evI cs it ρ s = .ok (xs.map enc) s1) (hi : i < ρ.length)
    (he : ∀ x ∈ xs, ev cs elt ((wipeD ρ own).set i (some (enc x))) s1 = .ok (g x) s1) : ev cs (.lc own (.v i) it [] elt) ρ s = .ok (.lst (xs.map g)) s1 := by
  have := qe_lcF (ifs := []) (f := fun _ => true) h1 hi (fun x _ => qt_nil) fun x hx _ => he x hx
  rw [List.filter_eq_self.mpr fun _ _ => rfl] at this
  exact this
theorem set_at {ρ : List (Option D)} {i : Nat} (h : i < ρ.length) : ((ρ.set i (some d))[i]?).join = some d := by rw [List.getElem?_set_self h]; rfl
theorem set_off {ρ : List (Option D)} {i j : Nat} (h : i ≠ j) : ((ρ.set i (some d))[j]?).join = (ρ[j]?).join := by rw [List.getElem?_set_ne h]
theorem wipe_off {i : Nat} : ∀ {own : List Nat}, i ∉ own → ((wipeD ρ own)[i]?).join = (ρ[i]?).join
  | [], _ => rfl
  | v :: vs, h => by
    simp only [List.mem_cons, not_or] at h
    unfold wipeD
    rw [List.getElem?_set_ne (fun e => h.1 e.symm), wipe_off h.2]
theorem lc_self {i : Nat} (h : i < ρ.length) : (((wipeD ρ own).set i (some d))[i]?).join = some d := set_at (by rw [wipeD_len]; exact h)
theorem lc_off {i j : Nat} {r : Option D} (h : (ρ[j]?).join = r) (hne : i ≠ j) (hn : j ∉ own) : (((wipeD ρ own).set i (some d))[j]?).join = r := by rw [set_off hne, wipe_off hn, h]
theorem lc_len {i : Nat} {o : Option D} : ((wipeD ρ own).set i o).length = ρ.length := by rw [List.length_set, wipeD_len]
theorem lc_lt {i j : Nat} {o : Option D} (h : j < ρ.length) : j < ((wipeD ρ own).set i o).length := by rw [lc_len]; exact h
theorem vw_lt {l : List Nat} {δ : Ev} {i : Nat} (h : i < δ.length) : i < (vw l δ).length := by unfold vw; rw [List.length_mapIdx]; exact h
end
end Pur

namespace Lw36
open
    PySem PySem.Spec PyProof.Rows L2
abbrev prg : Program := PySem.Challenge.pw_whomtotell_k36_duals_of_places_by_trying
def topS (i : Nat) : Stmt := prg.main.body.getD i (.Pass ⟨0, 0, 0, 0⟩)
def inCls (i j : Nat) : Stmt := match topS i with
  | .ClassDef _ _ _ body _ _ _ _ _ _ _ =>
        body.getD j (.Pass ⟨0, 0, 0, 0⟩)
  | _ => .Pass ⟨0, 0, 0, 0⟩
def f_is_integer : Pur.Fn := ⟨"is_integer", (["value"] : List Str), (["value"] : List Str), defBody (topS 1), defScope (topS 1)⟩
def d_is_integer : Pur.Df := ⟨f_is_integer, defArgs (topS 1)⟩
def f_is_within : Pur.Fn := ⟨"is_within", (["value", "least", "most"] : List Str), (["value", "least", "most"] : List Str), defBody (topS 2), defScope (topS 2)⟩
def d_is_within : Pur.Df := ⟨f_is_within, defArgs (topS 2)⟩
def f_is_listed : Pur.Fn := ⟨"is_listed", (["value"] : List Str), (["value"] : List Str), defBody (topS 3), defScope (topS 3)⟩
def d_is_listed : Pur.Df := ⟨f_is_listed, defArgs (topS 3)⟩
def f_is_tuple_of : Pur.Fn := ⟨"is_tuple_of", (["value", "many"] : List Str), (["value", "many"] : List Str), defBody (topS 4), defScope (topS 4)⟩
def d_is_tuple_of : Pur.Df := ⟨f_is_tuple_of, defArgs (topS 4)⟩
def f_is_place : Pur.Fn := ⟨"is_place", (["tops", "value"] : List Str), (["tops", "value", "one", "top"] : List Str), defBody (topS 23), defScope (topS 23)⟩
def d_is_place : Pur.Df := ⟨f_is_place, defArgs (topS 23)⟩
def f_are_under : Pur.Fn := ⟨"are_under", (["one", "other"] : List Str), (["one", "other", "low", "high"] : List Str), defBody (topS 26), defScope (topS 26)⟩
def d_are_under : Pur.Df := ⟨f_are_under, defArgs (topS 26)⟩
def f_least_of : Pur.Fn := ⟨"least_of", (["places"] : List Str), (["places", "found", "place", "one", "other"] : List Str), defBody (topS 27), defScope (topS 27)⟩
def d_least_of : Pur.Df := ⟨f_least_of, defArgs (topS 27)⟩
def f_greatest_of : Pur.Fn := ⟨"greatest_of", (["places"] : List Str), (["places", "found", "place", "one", "other"] : List Str), defBody (topS 28), defScope (topS 28)⟩
def d_greatest_of : Pur.Df := ⟨f_greatest_of, defArgs (topS 28)⟩
def f_cut_by : Pur.Fn := ⟨"cut_by", (["walls", "place"] : List Str), (["walls", "place", "wall", "found", "kept", "over", "axis", "number", "near", "some", "one"] : List Str), defBody (topS 29), defScope (topS 29)⟩
def d_cut_by : Pur.Df := ⟨f_cut_by, defArgs (topS 29)⟩
def f_need_few : Pur.Fn := ⟨"need_few", (["walls"] : List Str), (["walls"] : List Str), defBody (topS 30), defScope (topS 30)⟩
def d_need_few : Pur.Df := ⟨f_need_few, defArgs (topS 30)⟩
def f_dual_of : Pur.Fn := ⟨"dual_of", (["tops", "places"] : List Str), (["tops", "places", "walls", "place"] : List Str), defBody (topS 31), defScope (topS 31)⟩
def d_dual_of : Pur.Df := ⟨f_dual_of, defArgs (topS 31)⟩
def f_need_tops : Pur.Fn := ⟨"need_tops", (["value"] : List Str), (["value", "one"] : List Str), defBody (topS 32), defScope (topS 32)⟩
def d_need_tops : Pur.Df := ⟨f_need_tops, defArgs (topS 32)⟩
def f_need_places : Pur.Fn := ⟨"need_places", (["tops", "value"] : List Str), (["tops", "value", "one"] : List Str), defBody (topS 33), defScope (topS 33)⟩
def d_need_places : Pur.Df := ⟨f_need_places, defArgs (topS 33)⟩
def f_dual : Pur.Fn := ⟨"dual", (["tops", "places"] : List Str), (["tops", "places", "own"] : List Str), defBody (topS 34), defScope (topS 34)⟩
def d_dual : Pur.Df := ⟨f_dual, defArgs (topS 34)⟩
def f_least_places : Pur.Fn := ⟨"least_places", (["tops", "places"] : List Str), (["tops", "places"] : List Str), defBody (topS 35), defScope (topS 35)⟩
def d_least_places : Pur.Df := ⟨f_least_places, defArgs (topS 35)⟩
def f_greatest_places : Pur.Fn := ⟨"greatest_places", (["tops", "places"] : List Str), (["tops", "places"] : List Str), defBody (topS 36), defScope (topS 36)⟩
def d_greatest_places : Pur.Df := ⟨f_greatest_places, defArgs (topS 36)⟩
def f__law_pen : Pur.Fn := ⟨"_law_pen", (["script"] : List Str), (["script", "cell"] : List Str), defBody (topS 38), defScope (topS 38)⟩
def d__law_pen : Pur.Df := ⟨f__law_pen, defArgs (topS 38)⟩
def f__law_draw : Pur.Fn := ⟨"_law_draw", (["pen", "many"] : List Str), (["pen", "many", "at", "cell", "mixed", "rest"] : List Str), defBody (topS 39), defScope (topS 39)⟩
def d__law_draw : Pur.Df := ⟨f__law_draw, defArgs (topS 39)⟩
def f__law_pick : Pur.Fn := ⟨"_law_pick", (["pen", "some"] : List Str), (["pen", "some"] : List Str), defBody (topS 40), defScope (topS 40)⟩
def d__law_pick : Pur.Df := ⟨f__law_pick, defArgs (topS 40)⟩
def f__law_heard : Pur.Fn := ⟨"_law_heard", (["ask"] : List Str), (["ask", "caught", "found", "error", "kinds", "words", "word", "is_so"] : List Str), defBody (topS 41), defScope (topS 41)⟩
def d__law_heard : Pur.Df := ⟨f__law_heard, defArgs (topS 41)⟩
def f__law_places : Pur.Fn := ⟨"_law_places", (["ends"] : List Str), (["ends", "found", "top", "longer", "place", "number"] : List Str), defBody (topS 42), defScope (topS 42)⟩
def d__law_places : Pur.Df := ⟨f__law_places, defArgs (topS 42)⟩
def f__law_under : Pur.Fn := ⟨"_law_under", (["one", "other"] : List Str), (["one", "other", "low", "high"] : List Str), defBody (topS 43), defScope (topS 43)⟩
def d__law_under : Pur.Df := ⟨f__law_under, defArgs (topS 43)⟩
def f__law_least_places : Pur.Fn := ⟨"_law_least_places", (["places"] : List Str), (["places", "some", "place", "other"] : List Str), defBody (topS 44), defScope (topS 44)⟩
def d__law_least_places : Pur.Df := ⟨f__law_least_places, defArgs (topS 44)⟩
def f__law_greatest_places : Pur.Fn := ⟨"_law_greatest_places", (["places"] : List Str), (["places", "some", "place", "other"] : List Str), defBody (topS 45), defScope (topS 45)⟩
def d__law_greatest_places : Pur.Df := ⟨f__law_greatest_places, defArgs (topS 45)⟩
def f_law : Pur.Fn := ⟨"law", (["script"] : List Str), (["script", "pen", "turn", "own", "all_places", "some", "walls", "bad", "odd", "ask", "lap", "axis", "place", "one", "top", "wall"] : List Str), defBody (topS 46), defScope (topS 46)⟩
def d_law : Pur.Df := ⟨f_law, defArgs (topS 46)⟩
def df : List Pur.Df := ([d_is_integer, d_is_within, d_is_listed, d_is_tuple_of, d_is_place, d_are_under, d_least_of, d_greatest_of, d_cut_by, d_need_few, d_dual_of, d_need_tops, d_need_places, d_dual, d_least_places, d_greatest_places, d__law_pen, d__law_draw, d__law_pick, d__law_heard, d__law_places, d__law_under, d__law_least_places, d__law_greatest_places, d_law] : List Pur.Df)
def kwT : List (Str × List Str × List Nat) := [("dual", (["places", "tops"] : List Str), ([1, 0] : List Nat)), ("least_places", (["places", "tops"] : List Str), ([1, 0] : List Nat))]
def T : Pur.Tx := ⟨df.map Pur.Df.fn,
  (["WhomError", "PartError", "BadModel", "BadHouse", "BadTelling", "BadAsk", "BadNumber", "BadPaper", "BadValue", "Misfit", "NoName", "BadText", "BadCommand", "TooMany"] : List Str),
  ([("MOST_AXES", 12), ("MOST_STEP", 20), ("MOST_DUAL", 2000)] : List (Str × Int)),
  ([] : List (Str × Str)),
  (["ValueError", "abs", "all", "any", "bool", "enumerate", "int", "isinstance", "len", "list", "range", "set", "sorted", "super", "tuple", "zip"] : List Str), false, [], (["BadModel", "BadHouse", "BadTelling", "BadAsk", "BadNumber", "BadPaper", "BadValue", "Misfit", "NoName", "BadText", "BadCommand", "TooMany"] : List Str), kwT⟩
def i_PartError : Pur.InD := ⟨"PartError", inCls 7 0, (["part"] : List Str)⟩
def i_NoName : Pur.InD := ⟨"NoName", inCls 16 0, (["name"] : List Str)⟩
def i_BadText : Pur.InD := ⟨"BadText", inCls 17 0, (["line", "word"] : List Str)⟩
def i_BadCommand : Pur.InD := ⟨"BadCommand", inCls 18 0, (["word"] : List Str)⟩
def i_TooMany : Pur.InD := ⟨"TooMany", inCls 19 0, (["what", "most"] : List Str)⟩
def ins : List Pur.InD := ([i_PartError, i_NoName, i_BadText, i_BadCommand, i_TooMany] : List Pur.InD)
def er : List Pur.Er := ([("BadModel", "PartError", (["part"] : List Str)), ("BadHouse", "PartError", (["part"] : List Str)), ("BadTelling", "PartError", (["part"] : List Str)), ("BadAsk", "PartError", (["part"] : List Str)), ("BadNumber", "PartError", (["part"] : List Str)), ("BadPaper", "PartError", (["part"] : List Str)), ("BadValue", "PartError", (["part"] : List Str)), ("Misfit", "PartError", (["part"] : List Str)), ("NoName", "NoName", (["name"] : List Str)), ("BadText", "BadText", (["line", "word"] : List Str)), ("BadCommand", "BadCommand", (["word"] : List Str)), ("TooMany", "TooMany", (["what", "most"] : List Str))] : List Pur.Er)
def loose : List Str := (["is_integer", "is_within", "is_listed", "is_tuple_of", "WhomError", "PartError", "BadModel", "BadHouse", "BadTelling", "BadAsk", "BadNumber", "BadPaper", "BadValue", "Misfit", "NoName", "BadText", "BadCommand", "TooMany", "MOST_AXES", "MOST_STEP", "is_place", "MOST_DUAL", "are_under", "least_of", "greatest_of", "cut_by", "need_few", "dual_of", "need_tops", "need_places"] : List Str) ++ (["dual", "least_places", "greatest_places", "_law_pen", "_law_draw", "_law_pick", "_law_heard", "_law_places", "_law_under", "_law_least_places", "_law_greatest_places"] : List Str)
theorem bp_is_integer : d_is_integer.Bp := fun _ _ _ _ _ _ us hl => match us, hl with | [_], _ => rfl
theorem bp_is_within : d_is_within.Bp := fun _ _ _ _ _ _ us hl => match us, hl with | [_, _, _], _ => rfl
theorem bp_is_listed : d_is_listed.Bp := fun _ _ _ _ _ _ us hl => match us, hl with | [_], _ => rfl
theorem bp_is_tuple_of : d_is_tuple_of.Bp := fun _ _ _ _ _ _ us hl => match us, hl with | [_, _], _ => rfl
theorem bp_is_place : d_is_place.Bp := fun _ _ _ _ _ _ us hl => match us, hl with | [_, _], _ => rfl
theorem bp_are_under : d_are_under.Bp := fun _ _ _ _ _ _ us hl => match us, hl with | [_, _], _ => rfl
theorem bp_least_of : d_least_of.Bp := fun _ _ _ _ _ _ us hl => match us, hl with | [_], _ => rfl
theorem bp_greatest_of : d_greatest_of.Bp := fun _ _ _ _ _ _ us hl => match us, hl with | [_], _ => rfl
theorem bp_cut_by : d_cut_by.Bp := fun _ _ _ _ _ _ us hl => match us, hl with | [_, _], _ => rfl
theorem bp_need_few : d_need_few.Bp := fun _ _ _ _ _ _ us hl => match us, hl with | [_], _ => rfl
theorem bp_dual_of : d_dual_of.Bp := fun _ _ _ _ _ _ us hl => match us, hl with | [_, _], _ => rfl
theorem bp_need_tops : d_need_tops.Bp := fun _ _ _ _ _ _ us hl => match us, hl with | [_], _ => rfl
theorem bp_need_places : d_need_places.Bp := fun _ _ _ _ _ _ us hl => match us, hl with | [_, _], _ => rfl
theorem bp_dual : d_dual.Bp := fun _ _ _ _ _ _ us hl => match us, hl with | [_, _], _ => rfl
theorem bp_least_places : d_least_places.Bp := fun _ _ _ _ _ _ us hl => match us, hl with | [_, _], _ => rfl
theorem bp_greatest_places : d_greatest_places.Bp := fun _ _ _ _ _ _ us hl => match us, hl with | [_, _], _ => rfl
theorem bp__law_pen : d__law_pen.Bp := fun _ _ _ _ _ _ us hl => match us, hl with | [_], _ => rfl
theorem bp__law_draw : d__law_draw.Bp := fun _ _ _ _ _ _ us hl => match us, hl with | [_, _], _ => rfl
theorem bp__law_pick : d__law_pick.Bp := fun _ _ _ _ _ _ us hl => match us, hl with | [_, _], _ => rfl
theorem bp__law_heard : d__law_heard.Bp := fun _ _ _ _ _ _ us hl => match us, hl with | [_], _ => rfl
theorem bp__law_places : d__law_places.Bp := fun _ _ _ _ _ _ us hl => match us, hl with | [_], _ => rfl
theorem bp__law_under : d__law_under.Bp := fun _ _ _ _ _ _ us hl => match us, hl with | [_, _], _ => rfl
theorem bp__law_least_places : d__law_least_places.Bp := fun _ _ _ _ _ _ us hl => match us, hl with | [_], _ => rfl
theorem bp__law_greatest_places : d__law_greatest_places.Bp := fun _ _ _ _ _ _ us hl => match us, hl with | [_], _ => rfl
theorem bp_law : d_law.Bp := fun _ _ _ _ _ _ us hl => match us, hl with | [_], _ => rfl
theorem bp_all : ∀ d ∈ df, d.Bp := List.forall_mem_cons.mpr ⟨bp_is_integer, List.forall_mem_cons.mpr ⟨bp_is_within, List.forall_mem_cons.mpr ⟨bp_is_listed, List.forall_mem_cons.mpr ⟨bp_is_tuple_of, List.forall_mem_cons.mpr ⟨bp_is_place, List.forall_mem_cons.mpr ⟨bp_are_under, List.forall_mem_cons.mpr ⟨bp_least_of, List.forall_mem_cons.mpr ⟨bp_greatest_of, List.forall_mem_cons.mpr ⟨bp_cut_by, List.forall_mem_cons.mpr ⟨bp_need_few, List.forall_mem_cons.mpr ⟨bp_dual_of, List.forall_mem_cons.mpr ⟨bp_need_tops, List.forall_mem_cons.mpr ⟨bp_need_places, List.forall_mem_cons.mpr ⟨bp_dual, List.forall_mem_cons.mpr ⟨bp_least_places, List.forall_mem_cons.mpr ⟨bp_greatest_places, List.forall_mem_cons.mpr ⟨bp__law_pen, List.forall_mem_cons.mpr ⟨bp__law_draw, List.forall_mem_cons.mpr ⟨bp__law_pick, List.forall_mem_cons.mpr ⟨bp__law_heard, List.forall_mem_cons.mpr ⟨bp__law_places, List.forall_mem_cons.mpr ⟨bp__law_under, List.forall_mem_cons.mpr ⟨bp__law_least_places, List.forall_mem_cons.mpr ⟨bp__law_greatest_places, List.forall_mem_cons.mpr ⟨bp_law, List.forall_mem_nil _⟩⟩⟩⟩⟩⟩⟩⟩⟩⟩⟩⟩⟩⟩⟩⟩⟩⟩⟩⟩⟩⟩⟩⟩⟩
theorem kp_0 : d_dual.Kp (["places", "tops"] : List Str) ([1, 0] : List Nat) := fun _ _ _ _ _ _ ws hl => match ws, hl with | [_, _], _ => rfl
theorem kq_0 : ∀ d ∈ df, d.fn.name = "dual" → d.Kp (["places", "tops"] : List Str) ([1, 0] : List Nat) := List.forall_mem_cons.mpr ⟨fun e => absurd e (by decide +kernel), List.forall_mem_cons.mpr ⟨fun e => absurd e (by decide +kernel), List.forall_mem_cons.mpr ⟨fun e => absurd e (by decide +kernel), List.forall_mem_cons.mpr ⟨fun e => absurd e (by decide +kernel), List.forall_mem_cons.mpr ⟨fun e => absurd e (by decide +kernel), List.forall_mem_cons.mpr ⟨fun e => absurd e (by decide +kernel), List.forall_mem_cons.mpr ⟨fun e => absurd e (by decide +kernel), List.forall_mem_cons.mpr ⟨fun e => absurd e (by decide +kernel), List.forall_mem_cons.mpr ⟨fun e => absurd e (by decide +kernel), List.forall_mem_cons.mpr ⟨fun e => absurd e (by decide +kernel), List.forall_mem_cons.mpr ⟨fun e => absurd e (by decide +kernel), List.forall_mem_cons.mpr ⟨fun e => absurd e (by decide +kernel), List.forall_mem_cons.mpr ⟨fun e => absurd e (by decide +kernel), List.forall_mem_cons.mpr ⟨fun _ => kp_0, List.forall_mem_cons.mpr ⟨fun e => absurd e (by decide +kernel), List.forall_mem_cons.mpr ⟨fun e => absurd e (by decide +kernel), List.forall_mem_cons.mpr ⟨fun e => absurd e (by decide +kernel), List.forall_mem_cons.mpr ⟨fun e => absurd e (by decide +kernel), List.forall_mem_cons.mpr ⟨fun e => absurd e (by decide +kernel), List.forall_mem_cons.mpr ⟨fun e => absurd e (by decide +kernel), List.forall_mem_cons.mpr ⟨fun e => absurd e (by decide +kernel), List.forall_mem_cons.mpr ⟨fun e => absurd e (by decide +kernel), List.forall_mem_cons.mpr ⟨fun e => absurd e (by decide +kernel), List.forall_mem_cons.mpr ⟨fun e => absurd e (by decide +kernel), List.forall_mem_cons.mpr ⟨fun e => absurd e (by decide +kernel), List.forall_mem_nil _⟩⟩⟩⟩⟩⟩⟩⟩⟩⟩⟩⟩⟩⟩⟩⟩⟩⟩⟩⟩⟩⟩⟩⟩⟩
theorem kp_1 : d_least_places.Kp (["places", "tops"] : List Str) ([1, 0] : List Nat) := fun _ _ _ _ _ _ ws hl => match ws, hl with | [_, _], _ => rfl
theorem kq_1 : ∀ d ∈ df, d.fn.name = "least_places" → d.Kp (["places", "tops"] : List Str) ([1, 0] : List Nat) := List.forall_mem_cons.mpr ⟨fun e => absurd e (by decide +kernel), List.forall_mem_cons.mpr ⟨fun e => absurd e (by decide +kernel), List.forall_mem_cons.mpr ⟨fun e => absurd e (by decide +kernel), List.forall_mem_cons.mpr ⟨fun e => absurd e (by decide +kernel), List.forall_mem_cons.mpr ⟨fun e => absurd e (by decide +kernel), List.forall_mem_cons.mpr ⟨fun e => absurd e (by decide +kernel), List.forall_mem_cons.mpr ⟨fun e => absurd e (by decide +kernel), List.forall_mem_cons.mpr ⟨fun e => absurd e (by decide +kernel), List.forall_mem_cons.mpr ⟨fun e => absurd e (by decide +kernel), List.forall_mem_cons.mpr ⟨fun e => absurd e (by decide +kernel), List.forall_mem_cons.mpr ⟨fun e => absurd e (by decide +kernel), List.forall_mem_cons.mpr ⟨fun e => absurd e (by decide +kernel), List.forall_mem_cons.mpr ⟨fun e => absurd e (by decide +kernel), List.forall_mem_cons.mpr ⟨fun e => absurd e (by decide +kernel), List.forall_mem_cons.mpr ⟨fun _ => kp_1, List.forall_mem_cons.mpr ⟨fun e => absurd e (by decide +kernel), List.forall_mem_cons.mpr ⟨fun e => absurd e (by decide +kernel), List.forall_mem_cons.mpr ⟨fun e => absurd e (by decide +kernel), List.forall_mem_cons.mpr ⟨fun e => absurd e (by decide +kernel), List.forall_mem_cons.mpr ⟨fun e => absurd e (by decide +kernel), List.forall_mem_cons.mpr ⟨fun e => absurd e (by decide +kernel), List.forall_mem_cons.mpr ⟨fun e => absurd e (by decide +kernel), List.forall_mem_cons.mpr ⟨fun e => absurd e (by decide +kernel), List.forall_mem_cons.mpr ⟨fun e => absurd e (by decide +kernel), List.forall_mem_cons.mpr ⟨fun e => absurd e (by decide +kernel), List.forall_mem_nil _⟩⟩⟩⟩⟩⟩⟩⟩⟩⟩⟩⟩⟩⟩⟩⟩⟩⟩⟩⟩⟩⟩⟩⟩⟩
theorem kw_all : ∀ d ∈ df, ∀ ks ix, (d.fn.name, ks, ix) ∈ T.kws → d.Kp ks ix := by
  intro d hd ks ix h
  have h : (d.fn.name, ks, ix) ∈ kwT := h
  simp only [kwT, List.mem_cons, List.not_mem_nil, or_false, Prod.mk.injEq] at h
  rcases h with ⟨e, rfl, rfl⟩ | ⟨e, rfl, rfl⟩
  · exact kq_0 d hd e
  · exact kq_1 d hd e
theorem sc_all : df.all (fun d => Pur.fnScopeB d.fn.N d.fn.ps d.fn.scope) = true := by kernel_rfl
theorem sh_PartError : Pur.InSh i_PartError := ⟨⟨_, _, _, _, _, _, _, _, _, _, rfl, rfl, rfl, by kernel_rfl, by kernel_rfl, fun _ => rfl⟩, by kernel_rfl, by decide, by decide, fun _ _ _ _ _ _ _ us hl => match us, hl with | [_, _], _ => rfl⟩
theorem sh_NoName : Pur.InSh i_NoName := ⟨⟨_, _, _, _, _, _, _, _, _, _, rfl, rfl, rfl, by kernel_rfl, by kernel_rfl, fun _ => rfl⟩, by kernel_rfl, by decide, by decide, fun _ _ _ _ _ _ _ us hl => match us, hl with | [_, _], _ => rfl⟩
theorem sh_BadText : Pur.InSh i_BadText := ⟨⟨_, _, _, _, _, _, _, _, _, _, rfl, rfl, rfl, by kernel_rfl, by kernel_rfl, fun _ => rfl⟩, by kernel_rfl, by decide, by decide, fun _ _ _ _ _ _ _ us hl => match us, hl with | [_, _, _], _ => rfl⟩
theorem sh_BadCommand : Pur.InSh i_BadCommand := ⟨⟨_, _, _, _, _, _, _, _, _, _, rfl, rfl, rfl, by kernel_rfl, by kernel_rfl, fun _ => rfl⟩, by kernel_rfl, by decide, by decide, fun _ _ _ _ _ _ _ us hl => match us, hl with | [_, _], _ => rfl⟩
theorem sh_TooMany : Pur.InSh i_TooMany := ⟨⟨_, _, _, _, _, _, _, _, _, _, rfl, rfl, rfl, by kernel_rfl, by kernel_rfl, fun _ => rfl⟩, by kernel_rfl, by decide, by decide, fun _ _ _ _ _ _ _ us hl => match us, hl with | [_, _, _], _ => rfl⟩
theorem sh_all : ∀ d ∈ ins, Pur.InSh d := List.forall_mem_cons.mpr ⟨sh_PartError, List.forall_mem_cons.mpr ⟨sh_NoName, List.forall_mem_cons.mpr ⟨sh_BadText, List.forall_mem_cons.mpr ⟨sh_BadCommand, List.forall_mem_cons.mpr ⟨sh_TooMany, List.forall_mem_nil _⟩⟩⟩⟩⟩
theorem cov_all : ∀ p ∈ er, ∃ d ∈ ins, d.cls = p.2.1 ∧ d.fs = p.2.2 := by
  intro p hp
  have h : er.all (fun p => ins.any fun d => decide (d.cls = p.2.1) && decide (d.fs = p.2.2)) = true := by kernel_rfl
  obtain ⟨d, hd, e⟩ := List.any_eq_true.mp (List.all_eq_true.mp h p hp)
  simp only [Bool.and_eq_true, decide_eq_true_eq] at e
  exact ⟨d, hd, e⟩
theorem ercl : ∀ p ∈ er, T.clss.contains p.1 = true := List.all_eq_true.mp (by kernel_rfl)
theorem errs_ok : T.errs.all (fun x => ((Pur.eiOf er).lookup x).isSome) = true := by kernel_rfl
theorem sh_heard : Pur.HeSh d__law_heard.fn.scope d__law_heard.fn.body := ⟨⟨_, _, _, _, _, _, _, _, _, _, _, _, rfl, by kernel_rfl, by kernel_rfl⟩, by kernel_rfl, by kernel_rfl, by kernel_rfl, by kernel_rfl, by kernel_rfl⟩
theorem sh_pen : Pur.PenSh d__law_pen.fn.scope d__law_pen.fn.body := ⟨⟨_, _, _, _, _, _, _, _, _, _, _, _, _, _, _, _, _, rfl, by kernel_rfl, by kernel_rfl, by kernel_rfl, by kernel_rfl, by kernel_rfl⟩, by kernel_rfl, by kernel_rfl⟩
/-! the top's run -/
abbrev R : PySem.W.OpenRow := PySem.W.OpenLaw.row PySem.Challenge.rw_whomtotell_k36_duals_of_places_by_trying
abbrev hkP : PySem.W.Hook := Pur.hookP prg 4 (Pur.faOf T) (df.map Pur.Df.dd) ins er [("law", none)]
def ob (s : PySem.W.SharedT) : Pur.AlP := Pur.obsP prg 4 (Pur.faOf T) (df.map Pur.Df.dd) ins er [("law", none)] (HandSHeadRun.getT s)
theorem ob_eq (s : PySem.W.SharedT) : ob s = hkP.obs s.abs := Pur.obsP_eq (HandSHeadRun.getT_eq s)
def lawAt : Nat := 46
end Lw36

namespace Lw36
open
    PySem PySem.Spec PyProof.Rows L2
theorem run (w : World) : HandSHeadRun.RunEq R (PySem.W.view R.prog [lawAt]) hkP ob 60000 loose w := by
  intro os
  kernel_rfl
end Lw36

namespace Lw36
open
    PySem PySem.Spec PyProof.Rows L2
def c_is_integer : List Pur.CSt := [
  .ret (.and (.bi .isi [(.var 0), (.const (.ty "int"))]) (.not (.bi .isi [(.var 0), (.const (.ty "bool"))])))]
theorem cd_is_integer : (T.fn "is_integer").bind (Pur.compFn T) = some c_is_integer := by kernel_rfl
def c_is_within : List Pur.CSt := [
  .ret (.and (.call "is_integer" [(.var 0)]) (.and (.or (.isN (.var 1)) (.cmp .GtE (.var 0) (.var 1))) (.or (.isN (.var 2)) (.cmp .LtE (.var 0) (.var 2)))))]
theorem cd_is_within : (T.fn "is_within").bind (Pur.compFn T) = some c_is_within := by kernel_rfl
def c_is_listed : List Pur.CSt := [
  .ret (.bi .isi [(.var 0), (.tup [(.const (.ty "list")), (.const (.ty "tuple"))])])]
theorem cd_is_listed : (T.fn "is_listed").bind (Pur.compFn T) = some c_is_listed := by kernel_rfl
def c_is_tuple_of : List Pur.CSt := [
  .ret (.and (.call "is_listed" [(.var 0)]) (.cmp .Eq (.bi .len [(.var 0)]) (.var 1)))]
theorem cd_is_tuple_of : (T.fn "is_tuple_of").bind (Pur.compFn T) = some c_is_tuple_of := by kernel_rfl
def c_is_place : List Pur.CSt := [
  .ret (.and (.call "is_tuple_of" [(.var 1), (.bi .len [(.var 0)])]) (.bi .all [(.lc [2, 3] (.t [(.v 2), (.v 3)]) (.iZip (.var 1) (.var 0)) [] (.call "is_within" [(.var 2), (.const (.int 0)), (.var 3)]))]))]
theorem cd_is_place : (T.fn "is_place").bind (Pur.compFn T) = some c_is_place := by kernel_rfl
def c_are_under : List Pur.CSt := [
  .ret (.bi .all [(.lc [2, 3] (.t [(.v 2), (.v 3)]) (.iZip (.var 0) (.var 1)) [] (.cmp .LtE (.var 2) (.var 3)))])]
theorem cd_are_under : (T.fn "are_under").bind (Pur.compFn T) = some c_are_under := by kernel_rfl
def c_least_of : List Pur.CSt := [
  .own 1 (.lst []),
  .for_ (.v 2) (.iVal (.srtDc [3] 3 (.iVal (.var 0)))) [.ite (.not (.bi .any [(.lc [4] (.v 4) (.iVal (.var 1)) [] (.call "are_under" [(.var 4), (.var 2)]))])) [.app 1 (.var 2)] []],
  .ret (.bi .tuple [(.var 1)])]
theorem cd_least_of : (T.fn "least_of").bind (Pur.compFn T) = some c_least_of := by kernel_rfl
def c_greatest_of : List Pur.CSt := [
  .own 1 (.lst []),
  .for_ (.v 2) (.iVal (.rev (.srtDc [3] 3 (.iVal (.var 0))))) [.ite (.not (.bi .any [(.lc [4] (.v 4) (.iVal (.var 1)) [] (.call "are_under" [(.var 2), (.var 4)]))])) [.app 1 (.var 2)] []],
  .ret (.bi .tuple [(.rev (.var 1))])]
theorem cd_greatest_of : (T.fn "greatest_of").bind (Pur.compFn T) = some c_greatest_of := by kernel_rfl
def c_cut_by : List Pur.CSt := [
  .par0 4 5,
  .for_ (.v 2) (.iVal (.var 0)) [.appIf (.call "are_under" [(.var 1), (.var 2)]) 5 4 (.var 2)],
  .own 3 (.bi .list [(.var 4)]),
  .for_ (.t [(.v 6), (.v 7)]) (.iEnum (.var 1)) [.ite (.cmp .Gt (.var 7) (.const (.int 0))) [.asg (.v 8) (.lc [2] (.v 2) (.iVal (.var 4)) [(.cmp .Eq (.ix (.var 2) (.var 6)) (.bin .Sub (.var 7) (.const (.int 1))))] (.var 2)), .asg (.v 9) (.call "greatest_of" [(.lc [2] (.v 2) (.iVal (.var 5)) [] (.tupS [(true, (.sl (.var 2) none (some (.var 6)))), (false, (.bin .Sub (.var 7) (.const (.int 1)))), (true, (.sl (.var 2) (some (.bin .Add (.var 6) (.const (.int 1)))) none))]))]), .ext 3 (.lc [10] (.v 10) (.iVal (.var 9)) [(.not (.bi .any [(.lc [2] (.v 2) (.iVal (.var 8)) [] (.call "are_under" [(.var 10), (.var 2)]))]))] (.var 10))] []],
  .ret (.var 3)]
theorem cd_cut_by : (T.fn "cut_by").bind (Pur.compFn T) = some c_cut_by := by kernel_rfl
def c_need_few : List Pur.CSt := [
  .ite (.cmp .Gt (.bi .len [(.var 0)]) (.const (.int 2000))) [.rais "TooMany" [(.const (.str "dual")), (.const (.int 2000))]] [],
  .ret (.var 0)]
theorem cd_need_few : (T.fn "need_few").bind (Pur.compFn T) = some c_need_few := by kernel_rfl
def c_dual_of : List Pur.CSt := [
  .asg (.v 2) (.lst [(.var 0)]),
  .for_ (.v 3) (.iVal (.var 1)) [.asg (.v 2) (.call "need_few" [(.call "cut_by" [(.var 2), (.var 3)])])],
  .ret (.bi .tuple [(.bi .sorted [(.var 2)])])]
theorem cd_dual_of : (T.fn "dual_of").bind (Pur.compFn T) = some c_dual_of := by kernel_rfl
def c_need_tops : List Pur.CSt := [
  .ite (.or (.not (.call "is_listed" [(.var 0)])) (.not (.chain .LtE .LtE (.const (.int 1)) (.bi .len [(.var 0)]) (.const (.int 12))))) [.rais "BadValue" [(.const (.str "tops"))]] [],
  .ite (.not (.bi .all [(.lc [1] (.v 1) (.iVal (.var 0)) [] (.call "is_within" [(.var 1), (.const (.int 1)), (.const (.int 20))]))])) [.rais "BadValue" [(.const (.str "tops"))]] [],
  .ret (.bi .tuple [(.var 0)])]
theorem cd_need_tops : (T.fn "need_tops").bind (Pur.compFn T) = some c_need_tops := by kernel_rfl
def c_need_places : List Pur.CSt := [
  .ite (.or (.not (.call "is_listed" [(.var 1)])) (.not (.bi .all [(.lc [2] (.v 2) (.iVal (.var 1)) [] (.call "is_place" [(.var 0), (.var 2)]))]))) [.rais "BadValue" [(.const (.str "places"))]] [],
  .ret (.lc [2] (.v 2) (.iVal (.var 1)) [] (.bi .tuple [(.var 2)]))]
theorem cd_need_places : (T.fn "need_places").bind (Pur.compFn T) = some c_need_places := by kernel_rfl
def c_dual : List Pur.CSt := [
  .asg (.v 2) (.call "need_tops" [(.var 0)]),
  .ret (.call "dual_of" [(.var 2), (.call "need_places" [(.var 2), (.var 1)])])]
theorem cd_dual : (T.fn "dual").bind (Pur.compFn T) = some c_dual := by kernel_rfl
def c_least_places : List Pur.CSt := [
  .ret (.call "least_of" [(.call "need_places" [(.call "need_tops" [(.var 0)]), (.var 1)])])]
theorem cd_least_places : (T.fn "least_places").bind (Pur.compFn T) = some c_least_places := by kernel_rfl
def c_greatest_places : List Pur.CSt := [
  .ret (.call "greatest_of" [(.call "need_places" [(.call "need_tops" [(.var 0)]), (.var 1)])])]
theorem cd_greatest_places : (T.fn "greatest_places").bind (Pur.compFn T) = some c_greatest_places := by kernel_rfl
def c__law_pen : List Pur.CSt := [
  .ret (.lst [(.lc [1] (.v 1) (.iVal (.sl (.var 0) none (some (.const (.int 63))))) [] (.bi .int [(.var 1)])), (.const (.int 0)), (.const (.int 0))])]
theorem cd__law_pen : (T.fn "_law_pen").bind (Pur.compFn T) = some c__law_pen := by kernel_rfl
def c__law_draw : List Pur.CSt := [
  .ite (.cmp .Gt (.ix (.var 0) (.const (.int 2))) (.const (.int 0))) [.asg (.v 5) (.bi .int [(.ix (.var 0) (.const (.int 2)))]), .set 0 (.const (.int 2)) (.bin .FloorDiv (.var 5) (.var 1)), .ret (.bin .Mod (.bi .int [(.var 5)]) (.var 1))] [],
  .asg (.v 2) (.ix (.var 0) (.const (.int 1))),
  .set 0 (.const (.int 1)) (.bin .Add (.var 2) (.const (.int 1))),
  .asg (.v 3) (.bin .Add (.bin .Mult (.const (.int 71993)) (.var 2)) (.const (.int 31847))),
  .ite (.cmp .NotEq (.ix (.var 0) (.const (.int 0))) (.lst [])) [.asg (.v 3) (.ix (.ix (.var 0) (.const (.int 0))) (.bin .Mod (.bi .int [(.var 2)]) (.bi .len [(.ix (.var 0) (.const (.int 0)))])))] [],
  .ite (.and (.cmp .Lt (.var 2) (.bi .len [(.ix (.var 0) (.const (.int 0)))])) (.cmp .GtE (.bi .abs [(.var 3)]) (.bin .Pow (.const (.int 10)) (.const (.int 18))))) [.asg (.v 5) (.bin .Add (.bin .Mult (.const (.int 2)) (.bin .Sub (.bi .abs [(.var 3)]) (.bin .Pow (.const (.int 10)) (.const (.int 18))))) (.bi .int [(.cmp .Lt (.var 3) (.const (.int 0)))])), .set 0 (.const (.int 2)) (.bin .FloorDiv (.bi .int [(.var 5)]) (.var 1)), .ret (.bin .Mod (.bi .int [(.var 5)]) (.var 1))] [],
  .asg (.v 4) (.bin .Mod (.bi .int [(.bin .Pow (.bin .Add (.bin .Add (.bin .Mod (.bi .int [(.var 3)]) (.const (.int 2147483489))) (.bin .Mult (.const (.int 71993)) (.var 2))) (.const (.int 1451))) (.const (.int 5)))]) (.const (.int 2147483563))),
  .asg (.v 4) (.bin .Mod (.bi .int [(.bin .Pow (.bin .Add (.bin .Add (.bin .Mult (.var 4) (.bin .Add (.bin .Mult (.const (.int 2)) (.var 2)) (.const (.int 1451)))) (.bin .Mult (.bin .Mult (.const (.int 88427)) (.var 2)) (.var 2))) (.const (.int 71993))) (.const (.int 3)))]) (.const (.int 2147483587))),
  .ret (.bin .Mod (.bi .int [(.bin .FloorDiv (.var 4) (.const (.int 64)))]) (.var 1))]
theorem cd__law_draw : (T.fn "_law_draw").bind (Pur.compFn T) = some c__law_draw := by kernel_rfl
def c__law_pick : List Pur.CSt := [
  .ret (.ix (.var 1) (.call "_law_draw" [(.var 0), (.bi .len [(.var 1)])]))]
theorem cd__law_pick : (T.fn "_law_pick").bind (Pur.compFn T) = some c__law_pick := by kernel_rfl
def c__law_places : List Pur.CSt := [
  .asg (.v 1) (.lst [(.tup [])]),
  .for_ (.v 2) (.iVal (.var 0)) [.own 3 (.lst []), .for_ (.v 4) (.iVal (.var 1)) [.ext 3 (.lc [5] (.v 5) (.iRng1 (.bin .Add (.var 2) (.const (.int 1)))) [] (.bin .Add (.var 4) (.tup [(.var 5)])))], .asg (.v 1) (.var 3)],
  .ret (.var 1)]
theorem cd__law_places : (T.fn "_law_places").bind (Pur.compFn T) = some c__law_places := by kernel_rfl
def c__law_under : List Pur.CSt := [
  .ret (.cmp .Eq (.lc [2, 3] (.t [(.v 2), (.v 3)]) (.iZip (.var 0) (.var 1)) [(.cmp .Gt (.var 2) (.var 3))] (.const (.int 1))) (.lst []))]
theorem cd__law_under : (T.fn "_law_under").bind (Pur.compFn T) = some c__law_under := by kernel_rfl
def c__law_least_places : List Pur.CSt := [
  .asg (.v 1) (.srtSet (.var 0)),
  .ret (.lc [2] (.v 2) (.iVal (.var 1)) [(.cmp .Eq (.lc [3] (.v 3) (.iVal (.var 1)) [(.and (.cmp .NotEq (.var 3) (.var 2)) (.call "_law_under" [(.var 3), (.var 2)]))] (.var 3)) (.lst []))] (.var 2))]
theorem cd__law_least_places : (T.fn "_law_least_places").bind (Pur.compFn T) = some c__law_least_places := by kernel_rfl
def c__law_greatest_places : List Pur.CSt := [
  .asg (.v 1) (.srtSet (.var 0)),
  .ret (.lc [2] (.v 2) (.iVal (.var 1)) [(.cmp .Eq (.lc [3] (.v 3) (.iVal (.var 1)) [(.and (.cmp .NotEq (.var 3) (.var 2)) (.call "_law_under" [(.var 2), (.var 3)]))] (.var 3)) (.lst []))] (.var 2))]
theorem cd__law_greatest_places : (T.fn "_law_greatest_places").bind (Pur.compFn T) = some c__law_greatest_places := by kernel_rfl
def lawC : List Pur.CSt := [
  .for_ (.v 2) (.iRng1 (.const (.int 5))) [.asg (.v 3) (.bi .tuple [(.lc [11] (.v 11) (.iRng1 (.bin .Add (.const (.int 1)) (.call "_law_draw" [(.var 1), (.const (.int 5))]))) [] (.call "_law_pick" [(.var 1), (.lst [(.const (.int 1)), (.const (.int 1)), (.const (.int 1)), (.const (.int 2)), (.const (.int 3)), (.const (.int 6))])]))]), .asg (.v 4) (.call "_law_places" [(.var 3)]), .ite (.cmp .Gt (.bi .len [(.var 4)]) (.const (.int 260))) [.cont] [], .asg (.v 5) (.lc [10] (.v 10) (.iRng1 (.call "_law_pick" [(.var 1), (.lst [(.const (.int 0)), (.const (.int 1)), (.const (.int 2)), (.const (.int 4)), (.const (.int 8))])])) [] (.call "_law_pick" [(.var 1), (.var 4)])), .asg (.v 6) (.call "_law_greatest_places" [(.lc [12] (.v 12) (.iVal (.var 4)) [(.cmp .Eq (.lc [13] (.v 13) (.iVal (.var 5)) [(.call "_law_under" [(.var 13), (.var 12)])] (.var 13)) (.lst []))] (.var 12))]), .ite (.or (.cmp .NotEq (.call "dual" [(.var 3), (.var 5)]) (.bi .tuple [(.var 6)])) (.cmp .NotEq (.callK "dual" [1, 0] [(.lc [13] (.v 13) (.iVal (.var 5)) [] (.bi .list [(.var 13)])), (.bi .list [(.var 3)])]) (.bi .tuple [(.var 6)]))) [.ret (.const (.bl false))] [], .ite (.or (.cmp .NotEq (.call "least_places" [(.var 3), (.var 5)]) (.bi .tuple [(.call "_law_least_places" [(.var 5)])])) (.cmp .NotEq (.call "greatest_places" [(.var 3), (.var 5)]) (.bi .tuple [(.call "_law_greatest_places" [(.var 5)])]))) [.ret (.const (.bl false))] [], .ite (.or (.cmp .NotEq (.callK "least_places" [1, 0] [(.var 5), (.var 3)]) (.call "least_places" [(.var 3), (.rev (.var 5))])) (.cmp .NotEq (.call "dual" [(.var 3), (.call "least_places" [(.var 3), (.var 5)])]) (.bi .tuple [(.var 6)]))) [.ret (.const (.bl false))] [], .ite (.cmp .NotEq (.call "_law_least_places" [(.lc [12] (.v 12) (.iVal (.var 4)) [(.cmp .Eq (.lc [15] (.v 15) (.iVal (.var 6)) [(.call "_law_under" [(.var 12), (.var 15)])] (.var 15)) (.lst []))] (.var 12))]) (.call "_law_least_places" [(.var 5)])) [.ret (.const (.bl false))] [], .asg (.v 7) (.call "_law_pick" [(.var 1), (.lst [(.const .non), (.const (.int 5)), (.tup []), (.lst [(.const (.int 0))]), (.lst [(.const (.int 21))]), (.lst [(.const (.bl true))]), (.const (.str "1")), (.bin .Mult (.lst [(.const (.int 1))]) (.const (.int 13))), (.lst [(.const .non)]), .dict0])]), .asg (.v 8) (.call "_law_pick" [(.var 1), (.lst [(.const .non), (.const (.int 5)), (.lst [(.const (.int 5))]), (.lst [(.bin .Add (.var 3) (.tup [(.const (.int 0))]))]), (.lst [(.bi .tuple [(.lc [14] (.v 14) (.iVal (.var 3)) [] (.bin .Add (.var 14) (.const (.int 1))))])]), (.lst [(.bin .Mult (.tup [(.const (.bl true))]) (.bi .len [(.var 3)]))]), (.lst [(.const .non)]), (.lst [(.bin .Add (.tup [(.neg (.const (.int 1)))]) (.sl (.var 3) (some (.const (.int 1))) none))]), (.const (.str "places"))])]), .for_ (.v 9) (.iVal (.tup [(.const (.fn "dual")), (.const (.fn "least_places")), (.const (.fn "greatest_places"))])) [.ite (.cmp .NotEq (.lst [(.heard Pur.heardHk (.callV 9 ["is_tuple_of", "is_place", "are_under", "cut_by", "dual_of", "need_places", "dual", "least_places", "greatest_places", "_law_draw", "_law_pick", "_law_under"] [(.var 7), (.var 8)])), (.heard Pur.heardHk (.callV 9 ["is_tuple_of", "is_place", "are_under", "cut_by", "dual_of", "need_places", "dual", "least_places", "greatest_places", "_law_draw", "_law_pick", "_law_under"] [(.var 3), (.var 8)]))]) (.lst [(.tup [(.const (.str "value")), (.const (.str "tops"))]), (.tup [(.const (.str "value")), (.const (.str "places"))])])) [.ret (.const (.bl false))] []]],
  .ret (.const (.bl true))]
theorem sh_law : Pur.LawSh T d_law.fn.N d_law.fn.scope d_law.fn.body lawC := ⟨⟨_, _, _, _, _, _, rfl, by kernel_rfl⟩, by kernel_rfl, by kernel_rfl, by decide +kernel, by kernel_rfl, by kernel_rfl, by kernel_rfl⟩
/-- calls to the depth n -/
abbrev mk : Pur.MkE := Pur.mkOf (Pur.eiOf er)
def cal (n : Nat) : Pur.CS := Pur.callN T (fun x => (T.fn x).bind (Pur.compFn T)) mk 0 n
theorem cal_eq {x : Str} {fn : Pur.Fn} {body : List Pur.CSt} {n : Nat} {ds : List Pur.D} (h1 : T.fn x = some fn) (h2 : (T.fn x).bind (Pur.compFn T) = some body) : cal (n + 1) x ds = Pur.runFn (cal n) mk 0 fn.N.length body ds := by
  unfold cal
  rw [Pur.callN]
  simp only [h1]
  rw [h1] at h2
  simp only [h2]
theorem un_is_integer {n : Nat} {ds : List Pur.D} : cal (n + 1) "is_integer" ds = Pur.runFn (cal n) mk 0 f_is_integer.N.length c_is_integer ds := cal_eq (fn := f_is_integer) (by kernel_rfl) cd_is_integer
theorem un_is_within {n : Nat} {ds : List Pur.D} : cal (n + 1) "is_within" ds = Pur.runFn (cal n) mk 0 f_is_within.N.length c_is_within ds := cal_eq (fn := f_is_within) (by kernel_rfl) cd_is_within
theorem un_is_listed {n : Nat} {ds : List Pur.D} : cal (n + 1) "is_listed" ds = Pur.runFn (cal n) mk 0 f_is_listed.N.length c_is_listed ds := cal_eq (fn := f_is_listed) (by kernel_rfl) cd_is_listed
theorem un_is_tuple_of {n : Nat} {ds : List Pur.D} : cal (n + 1) "is_tuple_of" ds = Pur.runFn (cal n) mk 0 f_is_tuple_of.N.length c_is_tuple_of ds := cal_eq (fn := f_is_tuple_of) (by kernel_rfl) cd_is_tuple_of
theorem un_is_place {n : Nat} {ds : List Pur.D} : cal (n + 1) "is_place" ds = Pur.runFn (cal n) mk 0 f_is_place.N.length c_is_place ds := cal_eq (fn := f_is_place) (by kernel_rfl) cd_is_place
theorem un_are_under {n : Nat} {ds : List Pur.D} : cal (n + 1) "are_under" ds = Pur.runFn (cal n) mk 0 f_are_under.N.length c_are_under ds := cal_eq (fn := f_are_under) (by kernel_rfl) cd_are_under
theorem un_least_of {n : Nat} {ds : List Pur.D} : cal (n + 1) "least_of" ds = Pur.runFn (cal n) mk 0 f_least_of.N.length c_least_of ds := cal_eq (fn := f_least_of) (by kernel_rfl) cd_least_of
theorem un_greatest_of {n : Nat} {ds : List Pur.D} : cal (n + 1) "greatest_of" ds = Pur.runFn (cal n) mk 0 f_greatest_of.N.length c_greatest_of ds := cal_eq (fn := f_greatest_of) (by kernel_rfl) cd_greatest_of
theorem un_cut_by {n : Nat} {ds : List Pur.D} : cal (n + 1) "cut_by" ds = Pur.runFn (cal n) mk 0 f_cut_by.N.length c_cut_by ds := cal_eq (fn := f_cut_by) (by kernel_rfl) cd_cut_by
theorem un_need_few {n : Nat} {ds : List Pur.D} : cal (n + 1) "need_few" ds = Pur.runFn (cal n) mk 0 f_need_few.N.length c_need_few ds := cal_eq (fn := f_need_few) (by kernel_rfl) cd_need_few
theorem un_dual_of {n : Nat} {ds : List Pur.D} : cal (n + 1) "dual_of" ds = Pur.runFn (cal n) mk 0 f_dual_of.N.length c_dual_of ds := cal_eq (fn := f_dual_of) (by kernel_rfl) cd_dual_of
theorem un_need_tops {n : Nat} {ds : List Pur.D} : cal (n + 1) "need_tops" ds = Pur.runFn (cal n) mk 0 f_need_tops.N.length c_need_tops ds := cal_eq (fn := f_need_tops) (by kernel_rfl) cd_need_tops
theorem un_need_places {n : Nat} {ds : List Pur.D} : cal (n + 1) "need_places" ds = Pur.runFn (cal n) mk 0 f_need_places.N.length c_need_places ds := cal_eq (fn := f_need_places) (by kernel_rfl) cd_need_places
theorem un_dual {n : Nat} {ds : List Pur.D} : cal (n + 1) "dual" ds = Pur.runFn (cal n) mk 0 f_dual.N.length c_dual ds := cal_eq (fn := f_dual) (by kernel_rfl) cd_dual
theorem un_least_places {n : Nat} {ds : List Pur.D} : cal (n + 1) "least_places" ds = Pur.runFn (cal n) mk 0 f_least_places.N.length c_least_places ds := cal_eq (fn := f_least_places) (by kernel_rfl) cd_least_places
theorem un_greatest_places {n : Nat} {ds : List Pur.D} : cal (n + 1) "greatest_places" ds = Pur.runFn (cal n) mk 0 f_greatest_places.N.length c_greatest_places ds := cal_eq (fn := f_greatest_places) (by kernel_rfl) cd_greatest_places
theorem un__law_pen {n : Nat} {ds : List Pur.D} : cal (n + 1) "_law_pen" ds = Pur.runFn (cal n) mk 0 f__law_pen.N.length c__law_pen ds := cal_eq (fn := f__law_pen) (by kernel_rfl) cd__law_pen
theorem un__law_draw {n : Nat} {ds : List Pur.D} : cal (n + 1) "_law_draw" ds = Pur.runFn (cal n) mk 0 f__law_draw.N.length c__law_draw ds := cal_eq (fn := f__law_draw) (by kernel_rfl) cd__law_draw
theorem un__law_pick {n : Nat} {ds : List Pur.D} : cal (n + 1) "_law_pick" ds = Pur.runFn (cal n) mk 0 f__law_pick.N.length c__law_pick ds := cal_eq (fn := f__law_pick) (by kernel_rfl) cd__law_pick
theorem un__law_places {n : Nat} {ds : List Pur.D} : cal (n + 1) "_law_places" ds = Pur.runFn (cal n) mk 0 f__law_places.N.length c__law_places ds := cal_eq (fn := f__law_places) (by kernel_rfl) cd__law_places
theorem un__law_under {n : Nat} {ds : List Pur.D} : cal (n + 1) "_law_under" ds = Pur.runFn (cal n) mk 0 f__law_under.N.length c__law_under ds := cal_eq (fn := f__law_under) (by kernel_rfl) cd__law_under
theorem un__law_least_places {n : Nat} {ds : List Pur.D} : cal (n + 1) "_law_least_places" ds = Pur.runFn (cal n) mk 0 f__law_least_places.N.length c__law_least_places ds := cal_eq (fn := f__law_least_places) (by kernel_rfl) cd__law_least_places
theorem un__law_greatest_places {n : Nat} {ds : List Pur.D} : cal (n + 1) "_law_greatest_places" ds = Pur.runFn (cal n) mk 0 f__law_greatest_places.N.length c__law_greatest_places ds := cal_eq (fn := f__law_greatest_places) (by kernel_rfl) cd__law_greatest_places
end Lw36

namespace Lw36
open
    PySem PySem.Spec PyProof.Rows L2
variable {n : Nat} {s : Pur.Pn}
theorem r_is_integer {i : Int} : cal (n + 1) "is_integer" [.int i] s = .ok (.bl true) s := by
  rw [un_is_integer]; kernel_rfl
theorem r_is_within {i lo hi : Int} : cal (n + 2) "is_within" [.int i, .int lo, .int hi] s = .ok (.bl (decide (lo ≤ i) && decide (i ≤ hi))) s := by
  rw [un_is_within]
  simp only [Pur.runFn, c_is_within, Pur.exs, Pur.ex, Pur.evS, Pur.men, Pur.mens, Pur.ev, Pur.evs, Pur.bnd_ret, Pur.bnd_assoc]
  simp [Pur.vw, Pur.ofO_ret, Pur.bnd_ret, f_is_within]
  rw [Pur.bnd_okE r_is_integer]
  by_cases h : lo ≤ i <;> simp [h, Pur.truD, Pur.isNon, Pur.cmpD, Pur.ofO_ret, Pur.bnd_ret, Pur.ret_E, Pur.D.flat]
end Lw36
namespace Lw36
open
    PySem PySem.Spec PyProof.Rows L2
variable {n : Nat} {s : Pur.Pn}
theorem r_is_listed {d : Pur.D} {b : Bool} (h : Pur.biIsi [d, .tup [.ty "list", .ty "tuple"]] = some (.bl b)) : cal (n + 1) "is_listed" [d] s = .ok (.bl b) s := by
  rw [un_is_listed]
  simp only [Pur.runFn, c_is_listed, Pur.exs, Pur.ex, Pur.evS, Pur.men, Pur.mens, Pur.ev, Pur.evs, Pur.bnd_ret, Pur.bnd_assoc]
  simp [Pur.vw, Pur.ofO_ret, Pur.bnd_ret, f_is_listed, Pur.biD, h, Pur.D.flat, Pur.ret_E]
theorem r_listedT {xs : List Pur.D} : cal (n + 1) "is_listed" [.tup xs] s = .ok (.bl true) s := r_is_listed (by kernel_rfl)
theorem r_listedL {xs : List Pur.D} : cal (n + 1) "is_listed" [.lst xs] s = .ok (.bl true) s := r_is_listed (by kernel_rfl)
theorem r_is_tuple_of {xs : List Pur.D} {k : Int} : cal (n + 2) "is_tuple_of" [.tup xs, .int k] s = .ok (.bl (decide ((xs.length : Int) = k))) s := by
  rw [un_is_tuple_of]
  simp only [Pur.runFn, c_is_tuple_of, Pur.exs, Pur.ex, Pur.evS, Pur.men, Pur.mens, Pur.ev, Pur.evs, Pur.bnd_ret, Pur.bnd_assoc]
  simp [Pur.vw, Pur.ofO_ret, Pur.bnd_ret, f_is_tuple_of]
  rw [Pur.bnd_okE r_listedT]
  simp [Pur.truD, Pur.ofO_ret, Pur.bnd_ret, Pur.biD, Pur.arg1, Pur.biLen, Pur.cmpD, Pur.eq_int, Pur.D.flat, Pur.ret_E]
def under (a b : List Int) : Bool := (a.zip b).all fun q => decide (q.1 ≤ q.2)
theorem r_are_under {a b : List Int} : cal (n + 1) "are_under" [Pur.ofInts a, Pur.ofInts b] s = .ok (.bl (under a b)) s := by
  rw [un_are_under]
  simp only [Pur.runFn, c_are_under, Pur.exs, Pur.ex, Pur.evS, Pur.men, Pur.mens, Pur.ev, Pur.evs, Pur.evI, Pur.evTs, Pur.bnd_ret, Pur.bnd_assoc]
  simp [Pur.vw, Pur.ofO_ret, Pur.bnd_ret, f_are_under, Pur.seqD, Pur.ofInts, Pur.zip_ints]
  rw [Pur.bnd_lcE (Pur.compGo_encM (r := fun q => .bl (decide (q.1 ≤ q.2))) fun q _ => ?_)]
  · simp [Pur.all_map, Pur.ofO_ret, Pur.bnd_ret, Pur.ret_E, Pur.D.flat, under]
  · simp [Pur.bindT, Pur.bindTs, Pur.wipeD, Pur.ofO_ret, Pur.bnd_ret, Pur.cmpD, Pur.ret_E]
end Lw36
namespace Lw36
open
    PySem PySem.Spec PyProof.Rows L2
variable {n : Nat} {s : Pur.Pn}
def isPlace (t p : List Int) : Bool := decide (p.length = t.length) && (p.zip t).all fun q => decide (0 ≤ q.1) && decide (q.1 ≤ q.2)
theorem r_is_place {t p : List Int} : cal (n + 3) "is_place" [Pur.ofInts t, Pur.ofInts p] s = .ok (.bl (isPlace t p)) s := by
  rw [un_is_place]
  simp only [Pur.runFn, c_is_place, Pur.exs, Pur.ex, Pur.evS, Pur.men, Pur.mens, Pur.ev, Pur.evs, Pur.evI, Pur.evTs, Pur.bnd_ret, Pur.bnd_assoc]
  simp [Pur.vw, Pur.ofO_ret, Pur.bnd_ret, f_is_place, Pur.seqD, Pur.ofInts, Pur.zip_ints, Pur.biD, Pur.arg1, Pur.biLen]
  rw [Pur.bnd_okE r_is_tuple_of]
  simp only [List.length_map, Pur.truD, Pur.ofO_ret, Pur.bnd_ret]
  by_cases h : p.length = t.length
  · simp only [h, decide_true, if_true, Pur.bnd_assoc]
    rw [Pur.bnd_lcE (Pur.compGo_encM (r := fun q => .bl (decide (0 ≤ q.1) && decide (q.1 ≤ q.2))) fun q _ => ?_)]
    · have := Pur.all_map (fun q : Int × Int => decide (0 ≤ q.1) && decide (q.1 ≤ q.2)) (p.zip t)
      simp only [Pur.biD, Pur.arg1] at this
      simp [this, Pur.ofO_ret, Pur.bnd_ret, Pur.ret_E, Pur.D.flat, isPlace, h]
    · simp [Pur.bindT, Pur.bindTs, Pur.wipeD, Pur.ofO_ret, Pur.bnd_ret, Pur.cmpD, Pur.ret_E]
      rw [Pur.bnd_okE r_is_within]
      simp [Pur.ret_E]
  · have h' : ((p.length : Int) = (t.length : Int)) ↔ False := ⟨fun z => h (by omega), fun z => z.elim⟩
    simp [h', Pur.ret_E, Pur.D.flat, isPlace, h, Pur.bnd_ret]
end Lw36

namespace Lw36
open
    PySem PySem.Spec PyProof.Rows L2
variable {n : Nat} {s : Pur.Pn}
def gGo (F : List (List Int)) (p : List Int) : List (List Int) := if F.any (fun o => under p o) then F else F ++ [p]
def lGo (F : List (List Int)) (p : List Int) : List (List Int) := if F.any (fun o => under o p) then F else F ++ [p]
def greatestOf (L : List (List Int)) : List (List Int) := ((Pur.srtT (Pur.once L)).reverse.foldl gGo []).reverse
def leastOf (L : List (List Int)) : List (List Int) := (Pur.srtT (Pur.once L)).foldl lGo []
theorem gGo_len (l : List (List Int)) (F : List (List Int)) : (l.foldl gGo F).length ≤ F.length + l.length := by
  induction l generalizing F with
  | nil => simp
  | cons x l ih =>
    have : (gGo F x).length ≤ F.length + 1 := by unfold gGo; split <;> simp
    have := ih (gGo F x)
    rw
        [List.foldl_cons, List.length_cons]
    omega
theorem lGo_len (l : List (List Int)) (F : List (List Int)) : (l.foldl lGo F).length ≤ F.length + l.length := by
  induction l generalizing F with
  | nil => simp
  | cons x l ih =>
    have : (lGo F x).length ≤ F.length + 1 := by unfold lGo; split <;> simp
    have := ih (lGo F x)
    rw
        [List.foldl_cons, List.length_cons]
    omega
def gBody : List Pur.CSt := [.ite (.not (.bi .any [(.lc [4] (.v 4) (.iVal (.var 1)) [] (.call "are_under" [(.var 2), (.var 4)]))])) [.app 1 (.var 2)] []]
theorem c_greatest_eq : c_greatest_of = [.own 1 (.lst []), .for_ (.v 2) (.iVal (.rev (.srtDc [3] 3 (.iVal (.var 0))))) gBody, .ret (.bi .tuple [(.rev (.var 1))])] := rfl
theorem x_gBody {F : List (List Int)} {p : List Int} {x0 x3 x4 : Option Pur.Sl} (hF : F.length < 16777216) :
    Pur.exs (cal (n + 1)) mk 0 gBody [x0, some (.own (F.map Pur.ofInts)), some (.val (Pur.ofInts p)), x3, x4] s = .ok (.next [x0, some (.own ((gGo F p).map Pur.ofInts)), some (.val (Pur.ofInts p)), x3, x4]) s := by
  simp only [gBody, Pur.exs, Pur.ex, Pur.evS, Pur.evTS, Pur.men, Pur.mens, Pur.ev, Pur.evs, Pur.evI, Pur.evTs, Pur.bnd_ret, Pur.bnd_assoc]
  simp [Pur.vw, Pur.ofO_ret, Pur.bnd_ret, Pur.seqD]
  rw [Pur.bnd_lcE (Pur.compGo_encM (r := fun o => .bl (under p o)) fun o _ => ?_)]
  · have e := Pur.any_map (fun o => under p o) F
    simp only [List.nil_append, e, Pur.ofO_ret, Pur.bnd_ret, Pur.truD]
    by_cases c : F.any (fun o => under p o) = true
    · simp [c, gGo, Pur.bnd_ret, Pur.ret_E]
    · have c' : F.any (fun o => under p o) = false := by simpa using c
      simp only [c', gGo]
      simp [Pur.bnd_ret, Pur.ofO_ret, Pur.ret_E, Pur.ownAt, Pur.D.flat, Pur.ofInts, Pur.frz_self, hF, Pur.bnd_assoc]
  · simp [Pur.bindT, Pur.wipeD, Pur.ofO_ret, Pur.bnd_ret]
    rw [Pur.bnd_okE r_are_under]
    rfl
theorem r_greatest_of {L : List (List Int)} (h : ∀ l ∈ L, l ≠ []) (hl : L.length ≤ 1000000) : cal (n + 2) "greatest_of" [.lst (L.map Pur.ofInts)] s = .ok (.tup ((greatestOf L).map Pur.ofInts)) s := by
  have hl' : L.length < sizeLine := by rw [sizeLine_eq]; omega
  rw [un_greatest_of, c_greatest_eq]
  simp only [Pur.runFn, Pur.exs, Pur.ex, Pur.evS, Pur.evIS, Pur.men, Pur.mens, Pur.ev, Pur.evs, Pur.evI, Pur.evTs, Pur.bnd_ret, Pur.bnd_assoc]
  simp [Pur.vw, Pur.frz, Pur.isRng, Pur.ofO_ret, Pur.bnd_ret, f_greatest_of, Pur.seqD, Pur.lstOf, Pur.D.flat, Pur.srtOnce_places h hl', Pur.revD]
  obtain ⟨δ', e1, ⟨pl, e2⟩⟩ := Pur.forGo_fold (body := fun d δ' => Pur.bnd (Pur.ofO (Pur.bindS (.v 2) d δ')) fun δ'' => Pur.exs (cal (n + 1)) mk 0 gBody δ'') Pur.ofInts gGo (fun F δ => ∃ pl, δ = [some (.val (.lst (L.map Pur.ofInts))), some (.own (F.map Pur.ofInts)), pl, none, none]) (s := s) (xs := (Pur.srtT (Pur.once L)).reverse) (b0 := [])
    ⟨none, rfl⟩ (by
      rintro pre x post e δ ⟨pl, rfl⟩
      have hlen : (pre.foldl gGo []).length < 16777216 := by
        have h1 := gGo_len pre []
        have h2 := congrArg List.length e
        rw [List.length_reverse, Pur.srtT_len, List.length_append] at h2
        have h3 := Pur.once_len L
        simp
            only [List.length_nil] at h1
        omega
      refine ⟨_, ?_, ⟨some (.val (Pur.ofInts x)), rfl⟩⟩
      simp only [Pur.bindS]
      simp [Pur.ofO_ret, Pur.bnd_ret]
      exact x_gBody hlen)
  simp only [List.map_reverse, List.map_nil] at e1
  simp only [Pur.bnd_assoc]
  rw [Pur.bnd_okE e1, e2]
  simp [Pur.ofO_ret, Pur.bnd_ret, Pur.ret_E, Pur.biD, Pur.arg1, Pur.biTuple, greatestOf]
def lBody : List Pur.CSt := [.ite (.not (.bi .any [(.lc [4] (.v 4) (.iVal (.var 1)) [] (.call "are_under" [(.var 4), (.var 2)]))])) [.app 1 (.var 2)] []]
theorem c_least_eq : c_least_of = [.own 1 (.lst []), .for_ (.v 2) (.iVal (.srtDc [3] 3 (.iVal (.var 0)))) lBody, .ret (.bi .tuple [(.var 1)])] := rfl
theorem x_lBody {F : List (List Int)} {p : List Int} {x0 x3 x4 : Option Pur.Sl} (hF : F.length < 16777216) :
    Pur.exs (cal (n + 1)) mk 0 lBody [x0, some (.own (F.map Pur.ofInts)), some (.val (Pur.ofInts p)), x3, x4] s = .ok (.next [x0, some (.own ((lGo F p).map Pur.ofInts)), some (.val (Pur.ofInts p)), x3, x4]) s := by
  simp only [lBody, Pur.exs, Pur.ex, Pur.evS, Pur.evTS, Pur.men, Pur.mens, Pur.ev, Pur.evs, Pur.evI, Pur.evTs, Pur.bnd_ret, Pur.bnd_assoc]
  simp [Pur.vw, Pur.ofO_ret, Pur.bnd_ret, Pur.seqD]
  rw [Pur.bnd_lcE (Pur.compGo_encM (r := fun o => .bl (under o p)) fun o _ => ?_)]
  · have e := Pur.any_map (fun o => under o p) F
    simp only [List.nil_append, e, Pur.ofO_ret, Pur.bnd_ret, Pur.truD]
    by_cases c : F.any (fun o => under o p) = true
    · simp [c, lGo, Pur.bnd_ret, Pur.ret_E]
    · have c' : F.any (fun o => under o p) = false := by simpa using c
      simp only [c', lGo]
      simp [Pur.bnd_ret, Pur.ofO_ret, Pur.ret_E, Pur.ownAt, Pur.D.flat, Pur.ofInts, Pur.frz_self, hF, Pur.bnd_assoc]
  · simp [Pur.bindT, Pur.wipeD, Pur.ofO_ret, Pur.bnd_ret]
    rw [Pur.bnd_okE r_are_under]
    rfl
theorem r_least_of {L : List (List Int)} (h : ∀ l ∈ L, l ≠ []) (hl : L.length ≤ 1000000) : cal (n + 2) "least_of" [.lst (L.map Pur.ofInts)] s = .ok (.tup ((leastOf L).map Pur.ofInts)) s := by
  have hl' : L.length < sizeLine := by rw [sizeLine_eq]; omega
  rw [un_least_of, c_least_eq]
  simp only [Pur.runFn, Pur.exs, Pur.ex, Pur.evS, Pur.evIS, Pur.men, Pur.mens, Pur.ev, Pur.evs, Pur.evI, Pur.evTs, Pur.bnd_ret, Pur.bnd_assoc]
  simp [Pur.vw, Pur.frz, Pur.isRng, Pur.ofO_ret, Pur.bnd_ret, f_least_of, Pur.seqD, Pur.lstOf, Pur.D.flat, Pur.srtOnce_places h hl', Pur.revD]
  obtain ⟨δ', e1, ⟨pl, e2⟩⟩ := Pur.forGo_fold (body := fun d δ' => Pur.bnd (Pur.ofO (Pur.bindS (.v 2) d δ')) fun δ'' => Pur.exs (cal (n + 1)) mk 0 lBody δ'') Pur.ofInts lGo (fun F δ => ∃ pl, δ = [some (.val (.lst (L.map Pur.ofInts))), some (.own (F.map Pur.ofInts)), pl, none, none]) (s := s) (xs := Pur.srtT (Pur.once L)) (b0 := [])
    ⟨none, rfl⟩ (by
      rintro pre x post e δ ⟨pl, rfl⟩
      have hlen : (pre.foldl lGo []).length < 16777216 := by
        have h1 := lGo_len pre []
        have h2 := congrArg List.length e
        rw [Pur.srtT_len, List.length_append] at h2
        have h3 := Pur.once_len L
        simp
            only [List.length_nil] at h1
        omega
      refine ⟨_, ?_, ⟨some (.val (Pur.ofInts x)), rfl⟩⟩
      simp only [Pur.bindS]
      simp [Pur.ofO_ret, Pur.bnd_ret]
      exact x_lBody hlen)
  simp only [List.map_nil] at e1
  simp only [Pur.bnd_assoc]
  rw [Pur.bnd_okE e1, e2]
  simp [Pur.ofO_ret, Pur.bnd_ret, Pur.ret_E, Pur.biD, Pur.arg1, Pur.biTuple, leastOf]
end Lw36

namespace Lw36
open
    PySem PySem.Spec PyProof.Rows L2
variable {n : Nat} {s : Pur.Pn}
/-- the first loop -/
def kGo (p : List Int) (KO : List (List Int) × List (List Int)) (w : List Int) : List (List Int) × List (List Int) := if under p w then (KO.1, KO.2 ++ [w]) else (KO.1 ++ [w], KO.2)
theorem kGo_all (p : List Int) (W : List (List Int)) : ∀ K O, W.foldl (kGo p) (K, O) = (K ++ W.filter (fun w => !under p w), O ++ W.filter (fun w => under p w)) := by
  induction W with
  | nil => intro K O; simp
  | cons w W ih =>
    intro K O
    rw [List.foldl_cons]
    by_cases h : under p w = true
    · have e : kGo p (K, O) w = (K, O ++ [w]) := by unfold kGo; rw [if_pos h]
      rw [e, ih]
      simp [h]
    · have e : kGo p (K, O) w = (K ++ [w], O) := by unfold kGo; rw [if_neg h]
      rw [e, ih]
      simp [h]
/-- lowered in one axis -/
def low (k : Nat) (x : Int) (w : List Int) : List Int := w.take k ++ [x - 1] ++ w.drop (k + 1)
def near (K : List (List Int)) (k : Nat) (x : Int) : List (List Int) := K.filter fun w => decide (w[k]? = some (x - 1))
def news (K O : List (List Int)) (q : Nat × Int) : List (List Int) := if q.2 > 0 then (greatestOf (O.map (low q.1 q.2))).filter (fun c => !(near K q.1 q.2).any fun w => under c w) else []
def cGo (K O : List (List Int)) (F : List (List Int)) (q : Nat × Int) : List (List Int) := F ++ news K O q
def cutBy (W : List (List Int)) (p : List Int) : List (List Int) := (Pur.enumI 0 p).foldl (cGo (W.filter fun w => !under p w) (W.filter fun w => under p w)) (W.filter fun w => !under p w)
def cB1 : List Pur.CSt := [.appIf (.call "are_under" [(.var 1), (.var 2)]) 5 4 (.var 2)]
def cB2 : List Pur.CSt := [.asg (.v 8) (.lc [2] (.v 2) (.iVal (.var 4)) [(.cmp .Eq (.ix (.var 2) (.var 6)) (.bin .Sub (.var 7) (.const (.int 1))))] (.var 2)), .asg (.v 9) (.call "greatest_of" [(.lc [2] (.v 2) (.iVal (.var 5)) [] (.tupS [(true, (.sl (.var 2) none (some (.var 6)))), (false, (.bin .Sub (.var 7) (.const (.int 1)))), (true, (.sl (.var 2) (some (.bin .Add (.var 6) (.const (.int 1)))) none))]))]), .ext 3 (.lc [10] (.v 10) (.iVal (.var 9)) [(.not (.bi .any [(.lc [2] (.v 2) (.iVal (.var 8)) [] (.call "are_under" [(.var 10), (.var 2)]))]))] (.var 10))]
def cB2' : List Pur.CSt := [.ite (.cmp .Gt (.var 7) (.const (.int 0))) cB2 []]
theorem c_cut_eq : c_cut_by = [.par0 4 5, .for_ (.v 2) (.iVal (.var 0)) cB1, .own 3 (.bi .list [(.var 4)]), .for_ (.t [(.v 6), (.v 7)]) (.iEnum (.var 1)) cB2', .ret (.var 3)] := rfl
theorem x_cB1 {K O : List (List Int)} {p w : List Int} {x0 x3 x6 x7 x8 x9 x10 : Option Pur.Sl} (hK : K.length < 16777216) (hO : O.length < 16777216) :
    Pur.exs (cal (n + 1)) mk 0 cB1 [x0, some (.val (Pur.ofInts p)), some (.val (Pur.ofInts w)), x3, some (.own (K.map Pur.ofInts)), some (.own (O.map Pur.ofInts)), x6, x7, x8, x9, x10] s =
      .ok (.next [x0, some (.val (Pur.ofInts p)), some (.val (Pur.ofInts w)), x3, some (.own ((kGo p (K, O) w).1.map Pur.ofInts)), some (.own ((kGo p (K, O) w).2.map Pur.ofInts)), x6, x7, x8, x9, x10]) s := by
  simp only [cB1, Pur.exs, Pur.ex, Pur.evS, Pur.evTS, Pur.men, Pur.mens, Pur.ev, Pur.evs, Pur.evI, Pur.evTs, Pur.bnd_ret, Pur.bnd_assoc]
  simp [Pur.vw_A, Pur.vwA, Pur.vw1_v, Pur.ofO_ret, Pur.bnd_ret]
  rw [Pur.bnd_okE r_are_under]
  by_cases c : under p w = true
  · simp [c, kGo, Pur.truD, Pur.bnd_ret, Pur.ofO_ret, Pur.ret_E, Pur.ownAt, Pur.D.flat, Pur.ofInts, Pur.frz_A, Pur.frzA, Pur.frz1_f, Pur.frz1_v, hO, Pur.bnd_assoc]
  · have c' : under p w = false := by simpa using c
    simp [c', kGo, Pur.truD, Pur.bnd_ret, Pur.ofO_ret, Pur.ret_E, Pur.ownAt, Pur.D.flat, Pur.ofInts, Pur.frz_A, Pur.frzA, Pur.frz1_f, Pur.frz1_v, hK, Pur.bnd_assoc]
theorem low_len {k : Nat} {x : Int} {w : List Int} (h : k < w.length) : (low k x w).length = w.length := by
  unfold low
  simp only [List.length_append, List.length_take, List.length_drop, List.length_singleton]
  omega
theorem greatest_len (L : List (List Int)) : (greatestOf L).length ≤ L.length := by
  unfold greatestOf
  rw [List.length_reverse]
  have h1 := gGo_len (Pur.srtT (Pur.once L)).reverse []
  rw [List.length_reverse, Pur.srtT_len] at h1
  have := Pur.once_len L
  simp
      only [List.length_nil] at h1
  omega
def cS1 : Pur.CSt := .asg (.v 8) (.lc [2] (.v 2) (.iVal (.var 4)) [(.cmp .Eq (.ix (.var 2) (.var 6)) (.bin .Sub (.var 7) (.const (.int 1))))] (.var 2))
def cS2 : Pur.CSt := .asg (.v 9) (.call "greatest_of" [(.lc [2] (.v 2) (.iVal (.var 5)) [] (.tupS [(true, (.sl (.var 2) none (some (.var 6)))), (false, (.bin .Sub (.var 7) (.const (.int 1)))), (true, (.sl (.var 2) (some (.bin .Add (.var 6) (.const (.int 1)))) none))]))])
def cS3 : Pur.CSt := .ext 3 (.lc [10] (.v 10) (.iVal (.var 9)) [(.not (.bi .any [(.lc [2] (.v 2) (.iVal (.var 8)) [] (.call "are_under" [(.var 10), (.var 2)]))]))] (.var 10))
theorem cB2_eq : cB2 = [cS1, cS2, cS3] := rfl
theorem x_cS1 {K : List (List Int)} {k d : Nat} {x : Int} {x0 x1 x2 x3 x5 x8 x9 x10 : Option Pur.Sl} (h2 : ∀ b, Pur.frz1 b x2 = x2) (hk : k < d) (lK : ∀ w ∈ K, w.length = d) :
    Pur.ex (cal n) mk 0 cS1 [x0, x1, x2, x3, some (.val (.lst (K.map Pur.ofInts))), x5, some (.val (.int (k : Int))), some (.val (.int x)), x8, x9, x10] s =
      .ok (.next [x0, x1, x2, x3, some (.val (.lst (K.map Pur.ofInts))), x5, some (.val (.int (k : Int))), some (.val (.int x)), some (.val (.lst ((near K k x).map Pur.ofInts))), x9, x10]) s := by
  simp only [cS1, Pur.ex, Pur.evS, Pur.men, Pur.mens, Pur.ev, Pur.evs, Pur.evI, Pur.evTs, Pur.bnd_ret, Pur.bnd_assoc]
  simp [Pur.vw_A, Pur.vwA, Pur.vw1_v, Pur.ofO_ret, Pur.bnd_ret, Pur.seqD]
  rw [Pur.bnd_lcE (Pur.compGo_enc (r := fun w => if decide (w[k]? = some (x - 1)) = true then some (Pur.ofInts w) else none) fun w hw => ?_)]
  · have e : K.filterMap (fun w => if decide (w[k]? = some (x - 1)) = true then some (Pur.ofInts w) else none) = (near K k x).map Pur.ofInts := by
      unfold near
      clear lK
      induction K with
      | nil => rfl
      | cons w K ih =>
        rw [List.filterMap_cons, List.filter_cons]
        by_cases c : w[k]? = some (x - 1)
        · simp [c] at ih ⊢
          exact ih
        · simp [c] at ih ⊢
          exact ih
    rw [List.nil_append, e]
    simp [Pur.ofO_ret, Pur.bnd_ret, Pur.ret_E, Pur.D.flat, Pur.frz_A, Pur.frzA, Pur.frz1_f, Pur.frz1_v, h2, Pur.bindS]
  · have hl : k < w.length := by rw [lK w hw]; exact hk
    have hat : L2.atI (w.map Pur.D.int) (k : Int) = some (.int w[k]) := by
      rw [Pur.atI_nat (by rw [List.length_map]; exact hl), List.getElem?_map, List.getElem?_eq_getElem hl]
      rfl
    have hw2 : w[k]? = some w[k] := List.getElem?_eq_getElem hl
    simp [Pur.bindT, Pur.wipeD, Pur.ofO_ret, Pur.bnd_ret, Pur.ofInts, Pur.ixM_tup, hat, Pur.binD, Pur.cmpD, Pur.eq_int, Pur.truD]
    by_cases c : w[k] = x - 1
    · simp [c, Pur.ret_E, hw2]
    · simp [c, Pur.ret_E, hw2]
end Lw36
namespace Lw36
open
    PySem PySem.Spec PyProof.Rows L2
variable {n : Nat} {s : Pur.Pn}
theorem x_cS2 {O : List (List Int)} {k d : Nat} {x : Int} {x0 x1 x2 x3 x4 x5 x8 x9 x10 : Option Pur.Sl} (h2 : ∀ b, Pur.frz1 b x2 = x2) (h5 : Pur.vw1 true x5 = some (.lst (O.map Pur.ofInts))) (h5' : Pur.frz1 true x5 = some (.val (.lst (O.map Pur.ofInts)))) (hk : k < d) (hd : d ≤ 1000) (lO : ∀ w ∈ O, w.length = d) (hO : O.length ≤ 1000000) :
    Pur.ex (cal (n + 2)) mk 0 cS2 [x0, x1, x2, x3, x4, x5, some (.val (.int (k : Int))), some (.val (.int x)), x8, x9, x10] s =
      .ok (.next [x0, x1, x2, x3, x4, some (.val (.lst (O.map Pur.ofInts))), some (.val (.int (k : Int))), some (.val (.int x)), x8, some (.val (.tup ((greatestOf (O.map (low k x))).map Pur.ofInts))), x10]) s := by
  have hlow : ∀ l ∈ O.map (low k x), l ≠ [] := fun l hl => by
    obtain ⟨w, hw, rfl⟩ := List.mem_map.mp hl
    have := low_len (k := k) (x := x) (w := w) (by rw [lO w hw]; exact hk)
    intro z
    rw [z, lO w hw] at this
    simp at this
    omega
  simp only [cS2, Pur.ex, Pur.evS, Pur.men, Pur.mens, Pur.menSt, Pur.menO, Pur.ev, Pur.evs, Pur.evI, Pur.evTs, Pur.evSt, Pur.evP, Pur.bnd_ret, Pur.bnd_assoc]
  simp [Pur.vw_A, Pur.vwA, Pur.vw1_v, Pur.ofO_ret, Pur.bnd_ret, Pur.seqD, h5]
  rw [Pur.bnd_lcE (Pur.compGo_encM (r := fun w => Pur.ofInts (low k x w)) fun w hw => ?_)]
  · have e : O.map (fun w => Pur.ofInts (low k x w)) = (O.map (low k x)).map Pur.ofInts := by rw [List.map_map]; rfl
    rw [List.nil_append, e, Pur.bnd_okE (r_greatest_of hlow (by rw [List.length_map]; exact hO))]
    simp [Pur.ofO_ret, Pur.bnd_ret, Pur.ret_E, Pur.D.flat, Pur.frz_A, Pur.frzA, Pur.frz1_f, Pur.frz1_v, h2, h5', Pur.bindS]
  · have hl : k < w.length := by rw [lO w hw]; exact hk
    have e1 : (k : Int) + 1 = ((k + 1 : Nat) : Int) := by omega
    have ll := low_len (x := x) hl
    have hz : min k w.length + (((w.map Pur.D.int).drop (k + 1)).length + 1) ≤ 1000 := by
      rw [List.length_drop, List.length_map]
      have := lO w hw
      omega
    have e2 : (w.map Pur.D.int).take k ++ (.int (x - 1) :: (w.map Pur.D.int).drop (k + 1)) = (low k x w).map Pur.D.int := by
      unfold low
      simp [List.map_take, List.map_drop]
    simp [Pur.bindT, Pur.wipeD, Pur.ofO_ret, Pur.bnd_ret, Pur.ofInts, Pur.partD, Pur.sliceD, Pur.cut_lo, Pur.binD, Pur.bnd_assoc]
    rw [e1, Pur.cut_hi]
    rw [if_pos hz, e2]
    simp [Pur.ofO_ret, Pur.bnd_ret, Pur.ret_E]
theorem x_cS3 {F N G : List (List Int)} {x0 x1 x2 x4 x5 x6 x7 : Option Pur.Sl} (h2 : ∀ b, Pur.frz1 b x2 = x2) (hF : F.length + G.length ≤ 16777216) :
    Pur.ex (cal (n + 1)) mk 0 cS3 [x0, x1, x2, some (.own (F.map Pur.ofInts)), x4, x5, x6, x7, some (.val (.lst (N.map Pur.ofInts))), some (.val (.tup (G.map Pur.ofInts))), none] s =
      .ok (.next [x0, x1, x2, some (.own ((F ++ G.filter (fun c => !N.any fun w => under c w)).map Pur.ofInts)), x4, x5, x6, x7, some (.val (.lst (N.map Pur.ofInts))), some (.val (.tup (G.map Pur.ofInts))), none]) s := by
  simp only [cS3, Pur.ex, Pur.evS, Pur.men, Pur.mens, Pur.menSt, Pur.menO, Pur.ev, Pur.evs, Pur.evI, Pur.evTs, Pur.evSt, Pur.evP, Pur.bnd_ret, Pur.bnd_assoc]
  simp [Pur.vw_A, Pur.vwA, Pur.vw1_v, Pur.ofO_ret, Pur.bnd_ret, Pur.seqD, Pur.ownAt]
  rw [Pur.bnd_lcE (Pur.compGo_enc (r := fun c => if (!N.any fun w => under c w) = true then some (Pur.ofInts c) else none) fun c hc => ?_)]
  · have e : G.filterMap (fun c => if (!N.any fun w => under c w) = true then some (Pur.ofInts c) else none) = (G.filter (fun c => !N.any fun w => under c w)).map Pur.ofInts := by
      clear hF
      induction G with
      | nil => rfl
      | cons c G ih =>
        rw [List.filterMap_cons, List.filter_cons]
        cases hh : (!N.any fun w => under c w) with
        | true => simp only [if_true, List.map_cons, ih]
        | false => simp only [Bool.false_eq_true, if_false, ih]
    have hg : (G.filter (fun c => !N.any fun w => under c w)).length ≤ G.length := List.length_filter_le _ _
    have hz : F.length + (G.filter (fun c => !N.any fun w => under c w)).length ≤ 16777216 := by omega
    rw [List.nil_append, e]
    simp [Pur.ofO_ret, Pur.bnd_ret, Pur.ret_E, Pur.D.flat, Pur.frz_A, Pur.frzA, Pur.frz1_f, Pur.frz1_v, Pur.frz1_n, h2, Pur.lstOf, hz]
  · simp [Pur.bindT, Pur.wipeD, Pur.ofO_ret, Pur.bnd_ret, Pur.bnd_assoc]
    rw [Pur.bnd_lcE (Pur.compGo_encM (r := fun w => .bl (under c w)) fun w hw => ?_)]
    · rw [List.nil_append, Pur.any_map]
      simp only [Pur.ofO_ret, Pur.bnd_ret, Pur.truD]
      cases hh : N.any fun w => under c w with
      | true => simp [Pur.ret_E]; simpa using hh
      | false => simp [Pur.ret_E]; simpa using hh
    · rw [Pur.bnd_okE r_are_under]
      rfl
end Lw36

namespace Lw36
open
    PySem PySem.Spec PyProof.Rows L2
variable {n : Nat} {s : Pur.Pn}
theorem enumI_len : ∀ (l : List Int) (k : Nat), (Pur.enumI k l).length = l.length
  | [], _ => rfl
  | x :: l, k => by simp [Pur.enumI, enumI_len l (k + 1)]
theorem enumI_mem : ∀ (l : List Int) (k : Nat) (q : Nat × Int), q ∈ Pur.enumI k l ↔ k ≤ q.1 ∧ l[q.1 - k]? = some q.2
  | [], k, q => by simp [Pur.enumI]
  | x :: l, k, (j, y) => by
    rw [Pur.enumI, List.mem_cons, enumI_mem l (k + 1)]
    dsimp only
    constructor
    · rintro (h | ⟨h1, h2⟩)
      · cases h
        simp
      · refine ⟨by omega, ?_⟩
        rw [show j - k = (j - (k + 1)) + 1 by omega, List.getElem?_cons_succ]
        exact h2
    · rintro ⟨h1, h2⟩
      by_cases e : j = k
      · subst e
        simp at h2
        exact .inl (by rw [h2])
      · refine .inr ⟨by omega, ?_⟩
        rw [show j - k = (j - (k + 1)) + 1 by omega, List.getElem?_cons_succ] at h2
        exact h2
theorem news_len (K O : List (List Int)) (q : Nat × Int) : (news K O q).length ≤ O.length := by
  unfold news
  split
  · refine Nat.le_trans (List.length_filter_le _ _) ?_
    have := greatest_len (O.map (low q.1 q.2))
    rw [List.length_map] at this
    exact this
  · simp
theorem cGo_len (K O : List (List Int)) (l : List (Nat × Int)) (F : List (List Int)) : (l.foldl (cGo K O) F).length ≤ F.length + l.length * O.length := by
  induction l generalizing F with
  | nil => simp
  | cons q l ih =>
    have h1 := ih (cGo K O F q)
    have h2 : (cGo K O F q).length ≤ F.length + O.length := by
      unfold cGo
      rw [List.length_append]
      have := news_len K O q
      omega
    rw [List.foldl_cons, List.length_cons, Nat.succ_mul]
    omega
theorem r_cut_by {W : List (List Int)} {p : List Int} {d : Nat} (hp : p.length = d) (hd : d ≤ 12) (hW : ∀ w ∈ W, w.length = d) (hz : W.length ≤ 2000) :
    cal (n + 3) "cut_by" [.lst (W.map Pur.ofInts), Pur.ofInts p] s = .ok (.lst ((cutBy W p).map Pur.ofInts)) s := by
  rw [un_cut_by, c_cut_eq]
  refine Pur.runFn_ret ?_
  have e0 : (([.lst (W.map Pur.ofInts), Pur.ofInts p] : List Pur.D).map (fun d => some (Pur.Sl.val d)) ++ List.replicate (f_cut_by.N.length - ([.lst (W.map Pur.ofInts), Pur.ofInts p] : List Pur.D).length) none) = [some (.val (.lst (W.map Pur.ofInts))), some (.val (Pur.ofInts p)), none, none, none, none, none, none, none, none, none] := by kernel_rfl
  rw [e0]
  rw [Pur.exs_next (δ' := [some (.val (.lst (W.map Pur.ofInts))), some (.val (Pur.ofInts p)), none, none, some (.own (([] : List (List Int)).map Pur.ofInts)), some (.own (([] : List (List Int)).map Pur.ofInts)), none, none, none, none, none]) (by kernel_rfl)]
  -- the first loop
  obtain ⟨δ1, e1, ⟨x2, hx2, e1'⟩⟩ := Pur.forGo_fold (body := fun d δ' => Pur.bnd (Pur.ofO (Pur.bindS (.v 2) d δ')) fun δ'' => Pur.exs (cal (n + 2)) mk 0 cB1 δ'') Pur.ofInts (kGo p)
    (fun KO δ => ∃ x2, (∀ b, Pur.frz1 b x2 = x2) ∧ δ = [some (.val (.lst (W.map Pur.ofInts))), some (.val (Pur.ofInts p)), x2, none, some (.own (KO.1.map Pur.ofInts)), some (.own (KO.2.map Pur.ofInts)), none, none, none, none, none]) (s := s) (xs := W) (b0 := ([], []))
    ⟨none, fun _ => rfl, rfl⟩ (by
      rintro pre x post e δ ⟨x2, _, rfl⟩
      have hl : pre.length ≤ 2000 := by
        have := congrArg List.length e
        rw [List.length_append] at this
        omega
      rw [kGo_all]
      refine ⟨_, ?_, ⟨some (.val (Pur.ofInts x)), fun _ => rfl, rfl⟩⟩
      simp only [Pur.bindS]
      simp only [List.length_cons, List.length_nil, List.set_cons_succ, List.set_cons_zero, Nat.reduceAdd, Nat.reduceLT, if_true, Option.map, Pur.ofO_ret, Pur.bnd_ret]
      refine x_cB1 ?_ ?_
      · simp only [List.nil_append]
        exact Nat.lt_of_le_of_lt (List.length_filter_le _ _) (by omega)
      · simp only [List.nil_append]
        exact Nat.lt_of_le_of_lt (List.length_filter_le _ _) (by omega))
  rw [kGo_all] at e1'
  simp only [List.nil_append] at e1'
  generalize hK : W.filter (fun w => !under p w) = K at e1'
  generalize hO : W.filter (fun w => under p w) = O at e1'
  have lK : ∀ w ∈ K, w.length = d := fun w hw => hW w (by rw [← hK] at hw; exact (List.mem_filter.mp hw).1)
  have lO : ∀ w ∈ O, w.length = d := fun w hw => hW w (by rw [← hO] at hw; exact (List.mem_filter.mp hw).1)
  have zK : K.length ≤ 2000 := by rw [← hK]; exact Nat.le_trans (List.length_filter_le _ _) hz
  have zO : O.length ≤ 2000 := by rw [← hO]; exact Nat.le_trans (List.length_filter_le _ _) hz
  rw [Pur.exs_next (δ' := δ1) (by
    simp only [Pur.ex, Pur.evIS, Pur.men, Pur.evI, Pur.ev]
    simp only [Pur.bnd_assoc, Pur.bnd_ret]
    simp only [Pur.vw_A, Pur.vwA, Pur.vw1_v, List.getElem?_cons_zero, Option.join, Option.bind_some, id, Pur.ofO_ret, Pur.bnd_ret, Pur.seqD]
    exact e1), e1']
  rw [Pur.exs_next (s' := s) (δ' := [some (.val (.lst (W.map Pur.ofInts))), some (.val (Pur.ofInts p)), x2, some (.own (K.map Pur.ofInts)), some (.val (.lst (K.map Pur.ofInts))), some (.own (O.map Pur.ofInts)), none, none, none, none, none]) (by
    simp only [Pur.ex, Pur.evS, Pur.men, Pur.mens, Pur.ev, Pur.evs, Pur.bnd_assoc, Pur.bnd_ret]
    simp [Pur.vw_A, Pur.vwA, Pur.vw1_v, Pur.vw1_o, Pur.ofO_ret, Pur.bnd_ret, Pur.biD, Pur.arg1, Pur.biList, Pur.D.flat, Pur.frz_A, Pur.frzA, Pur.frz1_f, Pur.frz1_v, Pur.frz1_o, Pur.lstOf, Pur.ret_E])]
  -- the second loop
  obtain ⟨δ2, e2, ⟨x5, x6, x7, x8, x9, h5, h5', e2'⟩⟩ := Pur.forGo_fold (body := fun d δ' => Pur.bnd (Pur.ofO (Pur.bindS (.t [.v 6, .v 7]) d δ')) fun δ'' => Pur.exs (cal (n + 2)) mk 0 cB2' δ'') (fun q : Nat × Int => Pur.D.tup [.int (q.1 : Int), .int q.2]) (cGo K O)
    (fun F δ => ∃ x5 x6 x7 x8 x9, Pur.vw1 true x5 = some (.lst (O.map Pur.ofInts)) ∧ Pur.frz1 true x5 = some (.val (.lst (O.map Pur.ofInts))) ∧
      δ = [some (.val (.lst (W.map Pur.ofInts))), some (.val (Pur.ofInts p)), x2, some (.own (F.map Pur.ofInts)), some (.val (.lst (K.map Pur.ofInts))), x5, x6, x7, x8, x9, none]) (s := s) (xs := Pur.enumI 0 p) (b0 := K)
    (δ := [some (.val (.lst (W.map Pur.ofInts))), some (.val (Pur.ofInts p)), x2, some (.own (K.map Pur.ofInts)), some (.val (.lst (K.map Pur.ofInts))), some (.own (O.map Pur.ofInts)), none, none, none, none, none])
    ⟨_, _, _, _, _, rfl, rfl, rfl⟩ (by
      rintro pre ⟨k, x⟩ post e δ ⟨x5, x6, x7, x8, x9, h5, h5', rfl⟩
      have hm : (k, x) ∈ Pur.enumI 0 p := by rw [e]; exact List.mem_append_right _ (List.mem_cons_self ..)
      have hk := ((enumI_mem p 0 (k, x)).mp hm).2
      simp only [Nat.sub_zero] at hk
      have hkd : k < d := by rw [← hp]; exact (List.getElem?_eq_some_iff.mp hk).1
      have hpre : pre.length ≤ 12 := by
        have := congrArg List.length e
        rw [enumI_len, List.length_append] at this
        omega
      have hF := cGo_len K O pre K
      have hmul : pre.length * O.length ≤ 12 * 2000 := Nat.mul_le_mul hpre zO
      have hgr := greatest_len (O.map (low k x))
      rw [List.length_map] at hgr
      generalize hFF : pre.foldl (cGo K O) K = F at hF
      by_cases hx : 0 < x
      · refine ⟨_, ?_, ⟨some (.val (.lst (O.map Pur.ofInts))), some (.val (.int (k : Int))), some (.val (.int x)), some (.val (.lst ((near K k x).map Pur.ofInts))), some (.val (.tup ((greatestOf (O.map (low k x))).map Pur.ofInts))), rfl, rfl, rfl⟩⟩
        simp only [Pur.bindS, Pur.bindSs, List.length_cons, List.length_nil, List.length_set, List.set_cons_succ, List.set_cons_zero, Nat.reduceAdd, Nat.reduceLT, if_true, Option.bind_some, Pur.ofO_ret, Pur.bnd_ret]
        have ec : cGo K O F (k, x) = F ++ (greatestOf (O.map (low k x))).filter (fun c => !(near K k x).any fun w => under c w) := by
          unfold cGo news
          rw [if_pos hx]
        rw [ec]
        rw [cB2', Pur.exs_next (s' := s) (δ' := [some (.val (.lst (W.map Pur.ofInts))), some (.val (Pur.ofInts p)), x2, some (.own ((F ++ (greatestOf (O.map (low k x))).filter (fun c => !(near K k x).any fun w => under c w)).map Pur.ofInts)), some (.val (.lst (K.map Pur.ofInts))), some (.val (.lst (O.map Pur.ofInts))), some (.val (.int (k : Int))), some (.val (.int x)), some (.val (.lst ((near K k x).map Pur.ofInts))), some (.val (.tup ((greatestOf (O.map (low k x))).map Pur.ofInts))), none]) (by
          simp only [Pur.ex, Pur.evTS, Pur.men, Pur.ev, Pur.bnd_assoc, Pur.bnd_ret]
          simp [Pur.vw_A, Pur.vwA, Pur.vw1_v, Pur.ofO_ret, Pur.bnd_ret, Pur.cmpD, Pur.truD, hx]
          have a1 := x_cS1 (n := n + 2) (s := s) (x0 := some (.val (.lst (W.map Pur.ofInts)))) (x1 := some (.val (Pur.ofInts p))) (x3 := some (.own (F.map Pur.ofInts))) (x5 := x5) (x8 := x8) (x9 := x9) (x10 := none) (x := x) hx2 hkd lK
          rw [cB2_eq, Pur.exs_next a1]
          have a2 := x_cS2 (n := n) (s := s) (x0 := some (.val (.lst (W.map Pur.ofInts)))) (x1 := some (.val (Pur.ofInts p))) (x3 := some (.own (F.map Pur.ofInts))) (x4 := some (.val (.lst (K.map Pur.ofInts)))) (x8 := some (.val (.lst ((near K k x).map Pur.ofInts)))) (x9 := x9) (x10 := none) (x := x) hx2 h5 h5' hkd (by omega) lO (by omega)
          rw [Pur.exs_next a2]
          have a3 := x_cS3 (n := n + 1) (s := s) (F := F) (N := near K k x) (G := greatestOf (O.map (low k x))) (x0 := some (.val (.lst (W.map Pur.ofInts)))) (x1 := some (.val (Pur.ofInts p))) (x4 := some (.val (.lst (K.map Pur.ofInts)))) (x5 := some (.val (.lst (O.map Pur.ofInts)))) (x6 := some (.val (.int (k : Int)))) (x7 := some (.val (.int x))) hx2 (by omega)
          rw [Pur.exs_next a3]
          simp [Pur.exs_nilE]), Pur.exs_nilE]
      · refine ⟨_, ?_, ⟨x5, some (.val (.int (k : Int))), some (.val (.int x)), x8, x9, h5, h5', rfl⟩⟩
        simp only [Pur.bindS, Pur.bindSs, List.length_cons, List.length_nil, List.length_set, List.set_cons_succ, List.set_cons_zero, Nat.reduceAdd, Nat.reduceLT, if_true, Option.bind_some, Pur.ofO_ret, Pur.bnd_ret]
        have ec : cGo K O F (k, x) = F := by
          unfold cGo news
          rw [if_neg hx, List.append_nil]
        rw [ec, cB2', Pur.exs_next (s' := s) (δ' := [some (.val (.lst (W.map Pur.ofInts))), some (.val (Pur.ofInts p)), x2, some (.own (F.map Pur.ofInts)), some (.val (.lst (K.map Pur.ofInts))), x5, some (.val (.int (k : Int))), some (.val (.int x)), x8, x9, none]) (by
          simp only [Pur.ex, Pur.evTS, Pur.men, Pur.ev, Pur.bnd_assoc, Pur.bnd_ret]
          simp [Pur.vw_A, Pur.vwA, Pur.vw1_v, Pur.ofO_ret, Pur.bnd_ret, Pur.cmpD, Pur.truD, hx, Pur.exs_nilE]), Pur.exs_nilE])
  rw [← Pur.enum_ints] at e2
  rw [Pur.exs_next (δ' := δ2) (by
    simp only [Pur.ex, Pur.evIS, Pur.men, Pur.evI, Pur.ev]
    simp only [Pur.bnd_assoc, Pur.bnd_ret]
    simp only [Pur.vw_A, Pur.vwA, Pur.vw1_v, List.getElem?_cons_zero, List.getElem?_cons_succ, Option.join, Option.bind_some, id, Pur.ofO_ret, Pur.bnd_ret, Pur.seqD, Pur.ofInts, Option.map]
    simp only [Pur.isRng, Pur.frz_A, Pur.frzA, Pur.frz1_v, Pur.frz1_n, hx2]
    show Pur.forGo _ _ [_, _, _, Pur.frz1 false _, _, Pur.frz1 false _, _, _, _, _, _] s = _
    rw [Pur.frz1_f, Pur.frz1_f]
    exact e2), e2']
  refine Pur.exs_ret ?_
  simp only [Pur.ex, Pur.evS, Pur.men, Pur.ev, Pur.bnd_assoc, Pur.bnd_ret]
  simp [Pur.vw_A, Pur.vwA, Pur.vw1_o, Pur.ofO_ret, Pur.bnd_ret, Pur.ret_E]
  unfold cutBy
  rw [hK, hO]
end Lw36

namespace Lw36
open
    PySem PySem.Spec PyProof.Rows L2
variable {n : Nat} {s : Pur.Pn}
def tooMany : List (Str × Pur.D) := [("most", .int 2000), ("what", .str "dual")]
theorem mk_many : mk "TooMany" [.str "dual", .int 2000] = some tooMany := by kernel_rfl
theorem r_few_ok {W : List Pur.D} (h : W.length ≤ 2000) : cal (n + 1) "need_few" [.lst W] s = .ok (.lst W) s := by
  rw [un_need_few]
  simp only [Pur.runFn, c_need_few, Pur.exs, Pur.ex, Pur.evS, Pur.evTS, Pur.men, Pur.mens, Pur.ev, Pur.evs, Pur.bnd_ret, Pur.bnd_assoc]
  have h' : ¬ ((2000 : Int) < (W.length : Int)) := by omega
  simp [Pur.vw_A, Pur.vwA, Pur.vw1_v, Pur.ofO_ret, Pur.bnd_ret, f_need_few, Pur.biD, Pur.arg1, Pur.biLen, Pur.cmpD, Pur.truD, h', Pur.ret_E]
theorem r_few_no {W : List Pur.D} (h : ¬ W.length ≤ 2000) : cal (n + 1) "need_few" [.lst W] s = .exc "TooMany" tooMany s := by
  rw [un_need_few]
  refine Pur.runFn_exc ?_
  show Pur.exs _ _ _ c_need_few [some (.val (.lst W))] s = _
  refine Pur.exs_exc ?_
  have h' : (2000 : Int) < (W.length : Int) := by omega
  simp only [Pur.ex, Pur.evTS, Pur.men, Pur.mens, Pur.ev, Pur.evs, Pur.bnd_ret, Pur.bnd_assoc]
  simp [Pur.vw_A, Pur.vwA, Pur.vw1_v, Pur.ofO_ret, Pur.bnd_ret, Pur.biD, Pur.arg1, Pur.biLen, Pur.cmpD, Pur.truD, h']
  refine Pur.exs_exc ?_
  simp only [Pur.ex, Pur.evs, Pur.ev, Pur.bnd_ret, Pur.men, Pur.mens]
  rw [mk_many]
def dualGo : List (List Int) → List (List Int) → Option (List (List Int))
  | W, [] => some W
  | W, p :: ps => if (cutBy W p).length ≤ 2000 then dualGo (cutBy W p) ps else none
/-- all of a length -/
def Len (d : Nat) (L : List (List Int)) : Prop := ∀ w ∈ L, w.length = d
def dBody : List Pur.CSt := [.asg (.v 2) (.call "need_few" [(.call "cut_by" [(.var 2), (.var 3)])])]
theorem c_dual_of_eq : c_dual_of = [.asg (.v 2) (.lst [(.var 0)]), .for_ (.v 3) (.iVal (.var 1)) dBody, .ret (.bi .tuple [(.bi .sorted [(.var 2)])])] := rfl
theorem x_dBody {W : List (List Int)} {p : List Int} {d : Nat} {x0 x1 : Option Pur.Sl} (hp : p.length = d) (hd : d ≤ 12) (hW : Len d W) (hz : W.length ≤ 2000) :
    Pur.exs (cal (n + 3)) mk 0 dBody [x0, x1, some (.val (.lst (W.map Pur.ofInts))), some (.val (Pur.ofInts p))] s =
      if (cutBy W p).length ≤ 2000 then .ok (.next [x0, x1, some (.val (.lst ((cutBy W p).map Pur.ofInts))), some (.val (Pur.ofInts p))]) s else .exc "TooMany" tooMany s := by
  have e : Pur.evs (cal (n + 3)) [Pur.CE.call "cut_by" [.var 2, .var 3]] [Pur.vw1 false x0, Pur.vw1 false x1, some (.lst (W.map Pur.ofInts)), some (Pur.ofInts p)] s = .ok [.lst ((cutBy W p).map Pur.ofInts)] s := by
    simp only [Pur.evs, Pur.ev, Pur.bnd_assoc, Pur.bnd_ret]
    simp [Pur.ofO_ret, Pur.bnd_ret]
    rw [Pur.bnd_okE (r_cut_by hp hd hW hz)]
    rfl
  by_cases h : (cutBy W p).length ≤ 2000
  · rw [if_pos h]
    have e2 : Pur.ev (cal (n + 3)) (Pur.CE.call "need_few" [Pur.CE.call "cut_by" [.var 2, .var 3]]) [Pur.vw1 false x0, Pur.vw1 false x1, some (.lst (W.map Pur.ofInts)), some (Pur.ofInts p)] s = .ok (.lst ((cutBy W p).map Pur.ofInts)) s := by
      rw [Pur.ev, Pur.bnd_okE e]
      exact r_few_ok (by rw [List.length_map]; exact h)
    rw [dBody, Pur.exs_next (s' := s) (δ' := [x0, x1, some (.val (.lst ((cutBy W p).map Pur.ofInts))), some (.val (Pur.ofInts p))]), Pur.exs_nilE]
    simp only [Pur.ex, Pur.evS, Pur.bnd_assoc, Pur.bnd_ret]
    simp only [Pur.vw_A, Pur.vwA, Pur.vw1_v]
    have e3 : (Pur.men (Pur.CE.call "need_few" [Pur.CE.call "cut_by" [.var 2, .var 3]])) = [2, 3] := by kernel_rfl
    rw [e3]
    show Pur.bnd (Pur.ev _ _ [Pur.vw1 false x0, Pur.vw1 false x1, some (.lst (W.map Pur.ofInts)), some (Pur.ofInts p)]) _ s = _
    rw [Pur.bnd_okE e2]
    simp [Pur.ofO_ret, Pur.bnd_ret, Pur.ret_E, Pur.D.flat, Pur.frz_A, Pur.frzA, Pur.frz1_f, Pur.frz1_v, Pur.bindS]
  · rw [if_neg h]
    have e2 : Pur.ev (cal (n + 3)) (Pur.CE.call "need_few" [Pur.CE.call "cut_by" [.var 2, .var 3]]) [Pur.vw1 false x0, Pur.vw1 false x1, some (.lst (W.map Pur.ofInts)), some (Pur.ofInts p)] s = .exc "TooMany" tooMany s := by
      rw [Pur.ev, Pur.bnd_okE e]
      exact r_few_no (by rw [List.length_map]; exact h)
    rw [dBody]
    refine Pur.exs_exc ?_
    simp only [Pur.ex, Pur.evS, Pur.bnd_assoc, Pur.bnd_ret]
    simp only [Pur.vw_A, Pur.vwA, Pur.vw1_v]
    have e3 : (Pur.men (Pur.CE.call "need_few" [Pur.CE.call "cut_by" [.var 2, .var 3]])) = [2, 3] := by kernel_rfl
    rw [e3]
    show Pur.bnd (Pur.ev _ _ [Pur.vw1 false x0, Pur.vw1 false x1, some (.lst (W.map Pur.ofInts)), some (Pur.ofInts p)]) _ s = _
    rw [Pur.bnd_excE e2]
end Lw36

/-! the plain law of duals -/
namespace Lw36
open
    PySem PySem.Spec PyProof.Rows L2
theorem under_cons (a b : Int) (as bs : List Int) : under (a :: as) (b :: bs) = (decide (a ≤ b) && under as bs) := by simp [under]
def co (a : List Int) (i : Nat) : Int := a.getD i 0
theorem under_iff : ∀ {a b : List Int}, a.length = b.length → (under a b = true ↔ ∀ i, i < a.length → co a i ≤ co b i)
  | [], [], _ => by simp [under]
  | x :: a, y :: b, h => by
    have ih := under_iff (a := a) (b := b) (by simpa using h)
    rw [under_cons, Bool.and_eq_true, decide_eq_true_eq, ih]
    constructor
    · rintro ⟨h1, h2⟩ i hi
      cases i with
      | zero => exact h1
      | succ i => exact h2 i (by simpa using hi)
    · intro hh
      exact ⟨hh 0 (by simp), fun i hi => hh (i + 1) (by simpa using hi)⟩
  | [], _ :: _, h =>
        by simp at h
  | _ :: _, [], h =>
        by simp at h
theorem co_ext {a b : List Int} (h : a.length = b.length) (e : ∀ i, i < a.length → co a i = co b i) : a = b := by
  apply List.ext_getElem h
  intro i h1 h2
  have := e i h1
  unfold co at this
  rw [List.getD_eq_getElem?_getD, List.getD_eq_getElem?_getD, List.getElem?_eq_getElem h1, List.getElem?_eq_getElem h2] at this
  exact this
theorem under_refl (a : List Int) : under a a = true := (under_iff rfl).mpr fun i _ => Int.le_refl _
theorem under_trans {a b c : List Int} (h1 : a.length = b.length) (h2 : b.length = c.length) (x : under a b = true) (y : under b c = true) : under a c = true :=
  (under_iff (h1.trans h2)).mpr fun i hi => Int.le_trans ((under_iff h1).mp x i hi) ((under_iff h2).mp y i (h1 ▸ hi))
theorem under_antisymm {a b : List Int} (h : a.length = b.length) (x : under a b = true) (y : under b a = true) : a = b :=
  co_ext h fun i hi => Int.le_antisymm ((under_iff h).mp x i hi) ((under_iff h.symm).mp y i (h ▸ hi))
theorem under_sum : ∀ {a b : List Int}, a.length = b.length → under a b = true → a.sum ≤ b.sum ∧ (a.sum = b.sum → a = b)
  | [], [], _, _ => by simp
  | x :: a, y :: b, h, hu => by
    rw [under_cons, Bool.and_eq_true, decide_eq_true_eq] at hu
    obtain ⟨h1, h2⟩ := under_sum (a := a) (b := b) (by simpa using h) hu.2
    simp only [List.sum_cons]
    refine ⟨by omega, fun e => ?_⟩
    have e1 : x = y := by omega
    have e2 := h2 (by omega)
    rw [e1, e2]
  | [], _ :: _, h, _ =>
        by simp at h
  | _ :: _, [], h, _ =>
        by simp at h
theorem under_lex : ∀ {a b : List Int}, a.length = b.length → under a b = true → a ≠ b → HT.lexLt a b = true
  | [], [], _, _, n => absurd rfl n
  | x :: a, y :: b, h, hu, n => by
    rw [under_cons, Bool.and_eq_true, decide_eq_true_eq] at hu
    rw [HT.lexLt_cons]
    by_cases e : x = y
    · rw [if_pos e]
      exact under_lex (by simpa using h) hu.2 fun z => n (by rw [e, z])
    · rw
          [if_neg e, decide_eq_true_eq]
      omega
  | [], _ :: _, h, _, _ => by simp at h
  | _ :: _, [], h, _, _ => by simp at h
/-! ### the greatest of some -/
/-- the largest first: what comes later is never above -/
structure Desc (L : List (List Int)) : Prop where
  nd : L.Nodup
  no : L.Pairwise fun a b => under a b = false
theorem gGo_inv {d : Nat} : ∀ (post pre F : List (List Int)), Len d (pre ++ post) → Desc (pre ++ post) → (∀ f ∈ F, f ∈ pre) → (∀ o ∈ pre, ∃ f ∈ F, under o f = true) → (∀ a ∈ F, ∀ b ∈ F, under a b = true → a = b) → F.Nodup →
    (∀ f ∈ post.foldl gGo F, f ∈ pre ++ post) ∧ (∀ o ∈ pre ++ post, ∃ f ∈ post.foldl gGo F, under o f = true) ∧ (∀ a ∈ post.foldl gGo F, ∀ b ∈ post.foldl gGo F, under a b = true → a = b) ∧ (post.foldl gGo F).Nodup
  | [], pre, F, _, _, h1, h2, h3, h4 => by simpa using ⟨h1, h2, h3, h4⟩
  | x :: post, pre, F, hl, hd, h1, h2, h3, h4 => by
    have e : pre ++ x :: post = (pre ++ [x]) ++ post := by simp
    rw [e] at hl hd ⊢
    rw [List.foldl_cons]
    have hx : x ∉ pre := fun z => by
      have := hd.nd
      rw [List.append_assoc, List.nodup_append] at this
      exact this.2.2 x z x (by simp) rfl
    have hno : ∀ a ∈ pre, under a x = false := fun a ha => by
      have := hd.no
      rw [List.append_assoc, List.pairwise_append] at this
      exact this.2.2 a ha x (by simp)
    unfold gGo
    by_cases c : F.any (fun o => under x o) = true
    · rw [if_pos c]
      obtain ⟨f0, hf0, hu⟩ := List.any_eq_true.mp c
      exact gGo_inv post (pre ++ [x]) F hl hd (fun f hf => List.mem_append_left _ (h1 f hf)) (fun o ho => by
        rcases List.mem_append.mp ho with ho | ho
        · exact h2 o ho
        · rw [List.mem_singleton.mp ho]; exact ⟨f0, hf0, hu⟩) h3 h4
    · rw [if_neg c]
      have c' : ∀ f ∈ F, under x f = false := fun f hf => by
        cases h : under x f with
        | false => rfl
        | true => exact absurd (List.any_eq_true.mpr ⟨f, hf, h⟩) c
      refine gGo_inv post (pre ++ [x]) (F ++ [x]) hl hd (fun f hf => ?_) (fun o ho => ?_) (fun a ha b hb hu => ?_) ?_
      · rcases List.mem_append.mp hf with hf | hf
        · exact List.mem_append_left _ (h1 f hf)
        · exact List.mem_append_right _ hf
      · rcases List.mem_append.mp ho with ho | ho
        · obtain ⟨f, hf, hu⟩ := h2 o ho
          exact ⟨f, List.mem_append_left _ hf, hu⟩
        · rw [List.mem_singleton.mp ho]
          exact ⟨x, by simp, under_refl x⟩
      · rcases List.mem_append.mp ha with ha | ha <;> rcases List.mem_append.mp hb with hb | hb
        · exact h3 a ha b hb hu
        · rw [List.mem_singleton.mp hb] at hu
          rw [hno a (h1 a ha)] at hu; cases hu
        · rw [List.mem_singleton.mp ha] at hu
          rw [c' b hb] at hu; cases hu
        · rw [List.mem_singleton.mp ha, List.mem_singleton.mp hb]
      · exact List.nodup_append.mpr ⟨h4, by simp, fun a ha b hb => by
          rw [List.mem_singleton.mp hb]
          exact fun z => hx (z ▸ h1 a ha)⟩
theorem desc_of {d : Nat} {L : List (List Int)} (hl : Len d L) : Desc (Pur.srtT (Pur.once L)).reverse := by
  have nd : (Pur.srtT (Pur.once L)).Nodup := Pur.srtT_nodup.mpr (Pur.once_nodup L)
  have hs : (Pur.srtT (Pur.once L)).Pairwise fun x y => HT.lexLt y x = false := Pur.srtT_srt (Pur.once L)
  have hlen : ∀ w ∈ Pur.srtT (Pur.once L), w.length = d := fun w hw => hl w (Pur.once_memE.mp (Pur.srtT_mem.mp hw))
  refine ⟨List.pairwise_reverse.mpr (List.Pairwise.imp (fun h => Ne.symm h) nd), ?_⟩
  rw [List.pairwise_reverse]
  have both := (List.pairwise_and_iff.mpr ⟨hs, nd⟩)
  refine List.Pairwise.imp_of_mem (fun {x y} hx hy h => ?_) both
  cases c : under y x with
  | false => rfl
  | true =>
    have := under_lex (by rw [hlen x hx, hlen y hy]) c (fun z => h.2 z.symm)
    rw [h.1] at this; cases this
theorem greatest_spec {d : Nat} {L : List (List Int)} (hl : Len d L) : (greatestOf L).Nodup ∧ ∀ c, c ∈ greatestOf L ↔ c ∈ L ∧ ∀ o ∈ L, under c o = true → o = c := by
  have hm : ∀ x, x ∈ (Pur.srtT (Pur.once L)).reverse ↔ x ∈ L := fun x => by rw [List.mem_reverse, Pur.srtT_mem, Pur.once_memE]
  obtain ⟨g1, g2, g3, g4⟩ := gGo_inv (d := d) (Pur.srtT (Pur.once L)).reverse [] [] (fun w hw => hl w ((hm w).mp hw)) (desc_of hl) (by simp) (by simp) (by simp) List.nodup_nil
  rw [List.nil_append] at g1 g2
  have nd : (greatestOf L).Nodup := by
    unfold greatestOf
    exact List.pairwise_reverse.mpr (List.Pairwise.imp (fun h => Ne.symm h) g4)
  refine ⟨nd, fun c => ?_⟩
  unfold greatestOf
  rw [List.mem_reverse]
  constructor
  · intro hc
    refine ⟨(hm c).mp (g1 c hc), fun o ho hu => ?_⟩
    obtain ⟨f, hf, hu2⟩ := g2 o ((hm o).mpr ho)
    have lc := hl c ((hm c).mp (g1 c hc))
    have lo := hl o ho
    have lf := hl f ((hm f).mp (g1 f hf))
    have e := g3 c hc f hf (under_trans (lc.trans lo.symm) (lo.trans lf.symm) hu hu2)
    subst e
    exact under_antisymm (lo.trans lf.symm) hu2 hu
  · rintro ⟨hc, hmax⟩
    obtain ⟨f, hf, hu⟩ := g2 c ((hm c).mpr hc)
    have e := hmax f ((hm f).mp (g1 f hf)) hu
    rw [← e]; exact hf
/-! ### what is cut -/
theorem cGo_eq (K O : List (List Int)) : ∀ (l : List (Nat × Int)) (F : List (List Int)), l.foldl (cGo K O) F = F ++ l.flatMap (news K O)
  | [], F => by simp
  | q :: l, F => by
    rw [List.foldl_cons, cGo_eq K O l, List.flatMap_cons]
    unfold cGo
    rw [List.append_assoc]
theorem co_low {k : Nat} {x : Int} {w : List Int} (h : k < w.length) (i : Nat) : co (low k x w) i = if i = k then x - 1 else co w i := by
  unfold co low
  rw [List.getD_eq_getElem?_getD, List.getD_eq_getElem?_getD, List.append_assoc]
  by_cases h1 : i < k
  · rw [if_neg (by omega), List.getElem?_append_left (by rw [List.length_take]; omega), List.getElem?_take_of_lt h1]
  · rw [List.getElem?_append_right (by rw [List.length_take]; omega), List.length_take, Nat.min_eq_left (by omega)]
    by_cases h2 : i = k
    · subst h2
      simp
    · rw [if_neg h2, show i - k = (i - k - 1) + 1 by omega, List.cons_append, List.getElem?_cons_succ, List.nil_append, List.getElem?_drop]
      rw [show k + 1 + (i - k - 1) = i by omega]
/-- what is within the tops -/
def Box (t x : List Int) : Prop := x.length = t.length ∧ ∀ i, i < t.length → 0 ≤ co x i ∧ co x i ≤ co t i
/-- what is at or above none of some -/
def Dn (t : List Int) (S : List (List Int)) (x : List Int) : Prop := Box t x ∧ ∀ p ∈ S, under p x = false
def Mx (t : List Int) (S : List (List Int)) (x : List Int) : Prop := Dn t S x ∧ ∀ y, Dn t S y → under x y = true → y = x
/-- the walls of some places -/
structure Walls (t : List Int) (S W : List (List Int)) : Prop where
  nd : W.Nodup
  mem : ∀ x, x ∈ W ↔ Mx t S x
theorem Box.len {t x : List Int} (h : Box t x) : x.length = t.length := h.1
theorem Mx.len {t : List Int} {S : List (List Int)} {x : List Int} (h : Mx t S x) : x.length = t.length := h.1.1.1
theorem dn_down {t : List Int} {S : List (List Int)} {x y : List Int} (hx : Dn t S x) (ly : y.length = t.length) (h0 : ∀ i, i < t.length → 0 ≤ co y i) (hu : under y x = true) (hS : Len t.length S) : Dn t S y := by
  have lx := hx.1.1
  have hle := (under_iff (ly.trans lx.symm)).mp hu
  refine ⟨⟨ly, fun i hi => ⟨h0 i hi, Int.le_trans (hle i (ly ▸ hi)) (hx.1.2 i hi).2⟩⟩, fun p hp => ?_⟩
  cases c : under p y with
  | false => rfl
  | true =>
    have := under_trans ((hS p hp).trans ly.symm) (ly.trans lx.symm) c hu
    rw [hx.2 p hp] at this; cases this
/-- above each there is a greatest one -/
theorem above {t : List Int} {S : List (List Int)} : ∀ (n : Nat) (x : List Int), (t.sum - x.sum).toNat ≤ n → Dn t S x → ∃ m, Mx t S m ∧ under x m = true := by
  intro n
  have bx : ∀ {y}, Dn t S y → y.sum ≤ t.sum := fun {y} hy => by
    have : under y t = true := (under_iff hy.1.1).mpr fun i hi => (hy.1.2 i (hy.1.1 ▸ hi)).2
    exact (under_sum hy.1.1 this).1
  induction n with
  | zero =>
    intro x hn hx
    refine ⟨x, ⟨hx, fun y hy hu => ?_⟩, under_refl x⟩
    have l : x.length = y.length := hx.1.1.trans hy.1.1.symm
    have h1 := under_sum l hu
    have h2 := bx hy
    have h3 := bx hx
    exact (h1.2 (by omega)).symm
  | succ n ih =>
    intro x hn hx
    by_cases c : ∃ y, Dn t S y ∧ under x y = true ∧ y ≠ x
    · obtain ⟨y, hy, hu, ne⟩ := c
      have l : x.length = y.length := hx.1.1.trans hy.1.1.symm
      have h1 := under_sum l hu
      have h2 := bx hy
      have h3 : x.sum ≠ y.sum := fun e => ne (h1.2 e).symm
      obtain ⟨m, hm, hu2⟩ := ih y (by omega) hy
      exact ⟨m, hm, under_trans l (hy.1.1.trans hm.len.symm) hu hu2⟩
    · refine ⟨x, ⟨hx, fun y hy hu => ?_⟩, under_refl x⟩
      by_cases e : y = x
      · exact e
      · exact absurd ⟨y, hy, hu, e⟩ c
end Lw36

/-! the walls, step by step -/
namespace Lw36
open
    PySem PySem.Spec PyProof.Rows L2
theorem co_get {p : List Int} {k : Nat} (h : k < p.length) : p[k]? = some (co p k) := by
  unfold co
  rw [List.getD_eq_getElem?_getD, List.getElem?_eq_getElem h]
  rfl
theorem enumI_pair : ∀ (l : List Int) (k : Nat), (Pur.enumI k l).Pairwise (fun a b => a.1 < b.1)
  | [], _ => List.Pairwise.nil
  | x :: l, k => by
    refine List.Pairwise.cons (fun q hq => ?_) (enumI_pair l (k + 1))
    have := ((enumI_mem l (k + 1) q).mp hq).1
    show k < q.1
    omega
theorem cut_mem {W : List (List Int)} {p c : List Int} : c ∈ cutBy W p ↔ (c ∈ W ∧ under p c = false) ∨
    ∃ k, k < p.length ∧ 0 < co p k ∧ c ∈ greatestOf ((W.filter fun w => under p w).map (low k (co p k))) ∧ ∀ w ∈ W, under p w = false → w[k]? = some (co p k - 1) → under c w = false := by
  unfold cutBy
  rw [cGo_eq, List.mem_append, List.mem_filter, List.mem_flatMap]
  refine or_congr (by simp) ⟨?_, ?_⟩
  · rintro ⟨⟨k, x⟩, hq, hc⟩
    have hk := ((enumI_mem p 0 (k, x)).mp hq).2
    simp only [Nat.sub_zero] at hk
    have hlt : k < p.length := (List.getElem?_eq_some_iff.mp hk).1
    have ex : x = co p k := by
      rw [co_get hlt] at hk
      exact (Option.some.inj hk).symm
    subst ex
    unfold news at hc
    dsimp only at hc
    by_cases hpos : co p k > 0
    · rw [if_pos hpos, List.mem_filter] at hc
      refine ⟨k, hlt, hpos, hc.1, fun w hw hn hg => ?_⟩
      have h2 := hc.2
      rw [Bool.not_eq_true'] at h2
      have := List.any_eq_false.mp h2 w (by
        unfold near
        rw [List.mem_filter, List.mem_filter]
        exact ⟨⟨hw, by simp [hn]⟩, by simp [hg]⟩)
      simpa using this
    · rw [if_neg hpos] at hc
      cases hc
  · rintro ⟨k, hlt, hpos, hc, hn⟩
    refine ⟨(k, co p k), (enumI_mem p 0 (k, co p k)).mpr ⟨Nat.zero_le _, by simpa using co_get hlt⟩, ?_⟩
    unfold news
    dsimp only
    rw [if_pos hpos, List.mem_filter]
    refine ⟨hc, ?_⟩
    rw [Bool.not_eq_true', List.any_eq_false]
    intro w hw
    unfold near at hw
    rw [List.mem_filter, List.mem_filter] at hw
    obtain ⟨⟨h1, h2⟩, h3⟩ := hw
    have := hn w h1 (by simpa using h2) (by simpa using h3)
    simp [this]
section
variable {t : List Int} {S W : List (List Int)} {p : List Int}
theorem low_ok (hS : Len t.length S) (hp : p.length = t.length) (h : Walls t S W) {k : Nat} (hk : k < t.length) (hpos : 0 < co p k) {m : List Int} (hm : m ∈ W) (hu : under p m = true) :
    (low k (co p k) m).length = t.length ∧ under (low k (co p k) m) m = true ∧ Dn t (S ++ [p]) (low k (co p k) m) ∧ (∀ i, i < t.length → i ≠ k → co p i ≤ co (low k (co p k) m) i) ∧ co (low k (co p k) m) k = co p k - 1 := by
  have hM := (h.mem m).mp hm
  have lm := hM.len
  have hle := (under_iff (hp.trans lm.symm)).mp hu
  have ll : (low k (co p k) m).length = t.length := by rw [low_len (by rw [lm]; exact hk), lm]
  have hco := co_low (x := co p k) (w := m) (k := k) (by rw [lm]; exact hk)
  have hul : under (low k (co p k) m) m = true := (under_iff (ll.trans lm.symm)).mpr fun i hi => by
    rw [hco]
    split
    · rename_i e
      subst e
      have := hle i (by rw [hp]; exact hk)
      omega
    · exact Int.le_refl _
  have hk' : co (low k (co p k) m) k = co p k - 1 := by rw [hco, if_pos rfl]
  refine ⟨ll, hul, ?_, fun i hi ne => ?_, hk'⟩
  · have d1 : Dn t S (low k (co p k) m) := dn_down hM.1 ll (fun i hi => by
      rw [hco]
      split
      · omega
      · exact (hM.1.1.2 i hi).1) hul hS
    refine ⟨d1.1, fun q hq => ?_⟩
    rcases
        List.mem_append.mp hq with hq | hq
    · exact d1.2 q hq
    · rw
          [List.mem_singleton.mp hq]
      cases c : under p (low k (co p k) m) with
      | false => rfl
      | true =>
        have := (under_iff (hp.trans ll.symm)).mp c k (by rw [hp]; exact hk)
        rw [hk'] at this
        omega
  · rw [hco, if_neg ne]
    exact hle i (by rw [hp]; exact hi)
theorem dn_mono {x : List Int} (h : Dn t (S ++ [p]) x) : Dn t S x := ⟨h.1, fun q hq => h.2 q (List.mem_append_left _ hq)⟩
theorem kept_ok (h : Walls t S W) {w : List Int} (hw : w ∈ W) (hn : under p w = false) : Mx t (S ++ [p]) w := by
  have hM := (h.mem w).mp hw
  refine ⟨⟨hM.1.1, fun q hq => ?_⟩, fun y hy hu => hM.2 y (dn_mono hy) hu⟩
  rcases
      List.mem_append.mp hq with hq | hq
  · exact hM.1.2 q hq
  · rw [List.mem_singleton.mp hq]; exact hn
/-- each greatest one is a kept one or a lowered one -/
theorem cand (hS : Len t.length S) (hp : p.length = t.length) (h : Walls t S W) {x : List Int} (hx : Mx t (S ++ [p]) x) :
    (x ∈ W ∧ under p x = false) ∨ ∃ k, k < t.length ∧ 0 < co p k ∧ ∃ m ∈ W, under p m = true ∧ x = low k (co p k) m := by
  obtain ⟨m, hm, hu⟩ := above _ x (Nat.le_refl _) (dn_mono hx.1)
  have hmW := (h.mem m).mpr hm
  have lx := hx.len
  have npx : under p x = false := hx.1.2 p (by simp)
  cases c : under p m with
  | false =>
    have e := hx.2 m (kept_ok h hmW c).1 hu
    exact .inl ⟨by rw [← e]; exact hmW, npx⟩
  | true =>
    -- an axis in which x is below p
    have hex : ∃ k, k < t.length ∧ co x k < co p k := by
      by_cases hh : ∃ k, k < t.length ∧ co x k < co p k
      · exact hh
      · exfalso
        have : under p x = true := (under_iff (hp.trans lx.symm)).mpr fun i hi => by
          by_cases z : co p i ≤ co x i
          · exact z
          · exact absurd ⟨i, by rw [← hp]; exact hi, by omega⟩ hh
        rw [npx] at this; cases this
    obtain ⟨k, hk, hlt⟩ := hex
    have hpos : 0 < co p k := by
      have := (hx.1.1.2 k hk).1
      omega
    obtain ⟨ll, hul, hD, _, hkk⟩ := low_ok hS hp h hk hpos hmW c
    refine .inr ⟨k, hk, hpos, m, hmW, c, ?_⟩
    refine (hx.2 _ hD ?_).symm
    have hle := (under_iff (lx.trans hm.len.symm)).mp hu
    refine (under_iff (lx.trans ll.symm)).mpr fun i hi => ?_
    rw [co_low (by rw [hm.len]; exact hk)]
    split
    · rename_i e
      subst e
      omega
    · exact hle i hi
theorem walls_step (hS : Len t.length S) (hp : p.length = t.length) (h : Walls t S W) : Walls t (S ++ [p]) (cutBy W p) := by
  have lW : Len t.length W := fun w hw => ((h.mem w).mp hw).len
  have lmap : ∀ k, k < t.length → Len t.length ((W.filter fun w => under p w).map (low k (co p k))) := fun k hk w hw => by
    obtain ⟨m, hm, rfl⟩ := List.mem_map.mp hw
    have hm := List.mem_filter.mp hm
    rw [low_len (by rw [lW m hm.1]; exact hk)]
    exact lW m hm.1
  have memO : ∀ {m}, m ∈ (W.filter fun w => under p w) ↔ m ∈ W ∧ under p m = true := fun {m} => by rw [List.mem_filter]
  -- a lowered one that is found
  have grp : ∀ {k c}, k < t.length → 0 < co p k → c ∈ greatestOf ((W.filter fun w => under p w).map (low k (co p k))) → ∃ m, m ∈ W ∧ under p m = true ∧ c = low k (co p k) m := fun {k c} hk hpos hc => by
    obtain ⟨h1, _⟩ := ((greatest_spec (lmap k hk)).2 c).mp hc
    obtain ⟨m, hm, rfl⟩ := List.mem_map.mp h1
    exact ⟨m, (memO.mp hm).1, (memO.mp hm).2, rfl⟩
  refine ⟨?_, fun c => ?_⟩
  · -- each once
    unfold cutBy
    rw [cGo_eq]
    refine List.nodup_append.mpr ⟨h.nd.filter _, ?_, ?_⟩
    · refine List.pairwise_flatMap.mpr ⟨fun q hq => ?_, ?_⟩
      · obtain ⟨k, x⟩ := q
        have hk := ((enumI_mem p 0 (k, x)).mp hq).2
        simp only [Nat.sub_zero] at hk
        have hlt : k < p.length := (List.getElem?_eq_some_iff.mp hk).1
        have ex : x = co p k := by
          rw [co_get hlt] at hk
          exact (Option.some.inj hk).symm
        subst ex
        unfold news
        split
        · exact List.Pairwise.filter _ (greatest_spec (lmap k (by rw [← hp]; exact hlt))).1
        · exact List.Pairwise.nil
      · refine List.Pairwise.imp_of_mem (fun {a b} ha hb hab => ?_) (enumI_pair p 0)
        intro x hx y hy e
        subst e
        obtain ⟨k, xk⟩ := a
        obtain ⟨j, xj⟩ := b
        have hk := ((enumI_mem p 0 (k, xk)).mp ha).2
        have hj := ((enumI_mem p 0 (j, xj)).mp hb).2
        simp only [Nat.sub_zero] at hk hj
        have kl : k < p.length := (List.getElem?_eq_some_iff.mp hk).1
        have jl : j < p.length := (List.getElem?_eq_some_iff.mp hj).1
        have ek : xk = co p k := by rw [co_get kl] at hk; exact (Option.some.inj hk).symm
        have ej : xj = co p j := by rw [co_get jl] at hj; exact (Option.some.inj hj).symm
        subst ek ej
        unfold news at hx hy
        dsimp only at hx hy hab
        split at hx
        · split at hy
          · rename_i c1 c2
            obtain ⟨m, hm, hu, e1⟩ := grp (by rw [← hp]; exact kl) c1 (List.mem_filter.mp hx).1
            obtain ⟨m', hm', hu', e2⟩ := grp (by rw [← hp]; exact jl) c2 (List.mem_filter.mp hy).1
            have a1 := (low_ok hS hp h (by rw [← hp]; exact kl) c1 hm hu).2.2.2.2
            have a2 := (low_ok hS hp h (by rw [← hp]; exact jl) c2 hm' hu').2.2.2.1 k (by rw [← hp]; exact kl) (by omega)
            rw [← e1] at a1
            rw [← e2] at a2
            omega
          · cases hy
        · cases hx
    · intro a ha b hb e
      subst e
      have ha := List.mem_filter.mp ha
      obtain ⟨⟨k, x⟩, hq, hc⟩ := List.mem_flatMap.mp hb
      have hk := ((enumI_mem p 0 (k, x)).mp hq).2
      simp only [Nat.sub_zero] at hk
      have hlt : k < p.length := (List.getElem?_eq_some_iff.mp hk).1
      have ex : x = co p k := by rw [co_get hlt] at hk; exact (Option.some.inj hk).symm
      subst ex
      unfold news at hc
      dsimp only at hc
      split at hc
      · rename_i c1
        have hc := List.mem_filter.mp hc
        obtain ⟨m, hm, hu, e1⟩ := grp (by rw [← hp]; exact hlt) c1 hc.1
        have a1 := (low_ok hS hp h (by rw [← hp]; exact hlt) c1 hm hu).2.2.2.2
        rw [← e1] at a1
        have la : k < a.length := by rw [lW a ha.1, ← hp]; exact hlt
        have h2 := hc.2
        rw [Bool.not_eq_true', List.any_eq_false] at h2
        have := h2 a (by
          unfold near
          rw [List.mem_filter, List.mem_filter]
          exact ⟨ha, by rw [co_get la, a1]; simp⟩)
        exact this (under_refl a)
      · cases hc
  · rw [cut_mem]
    constructor
    · rintro (⟨hc, hn⟩ | ⟨k, hkp, hpos, hc, hnear⟩)
      · exact kept_ok h hc hn
      · have hk : k < t.length := by rw [← hp]; exact hkp
        obtain ⟨h1, h2⟩ := ((greatest_spec (lmap k hk)).2 c).mp hc
        obtain ⟨m, hm, hu, rfl⟩ := grp hk hpos hc
        obtain ⟨ll, hul, hD, hge, hkk⟩ := low_ok hS hp h hk hpos hm hu
        obtain ⟨x, hx, hux⟩ := above _ _ (Nat.le_refl _) hD
        have lx := hx.len
        have hlex := (under_iff (ll.trans lx.symm)).mp hux
        rcases cand hS hp h hx with ⟨hxW, hnx⟩ | ⟨j, hj, hposj, m', hm', hu', rfl⟩
        · -- a kept one above it: near
          exfalso
          have hxk : co x k = co p k - 1 := by
            by_cases z : co p k ≤ co x k
            · have : under p x = true := (under_iff (hp.trans lx.symm)).mpr fun i hi => by
                by_cases e : i = k
                · subst e; exact z
                · exact Int.le_trans (hge i (by rw [← hp]; exact hi) e) (hlex i (by rw [ll, ← hp]; exact hi))
              rw [hnx] at this; cases this
            · have := hlex k (by rw [ll]; exact hk)
              rw [hkk] at this
              omega
          have := hnear x hxW hnx (by rw [co_get (by rw [lx]; exact hk), hxk])
          rw [hux] at this; cases this
        · obtain ⟨ll', _, _, hge', hkk'⟩ := low_ok hS hp h hj hposj hm' hu'
          have ej : j = k := by
            by_cases e : j = k
            · exact e
            · exfalso
              have a1 := hge j hj e
              have a2 := hlex j (by rw [ll]; exact hj)
              rw [hkk'] at a2
              omega
          subst ej
          have := h2 _ (List.mem_map_of_mem (memO.mpr ⟨hm', hu'⟩)) hux
          rw [this] at hx
          exact hx
    · intro hx
      rcases cand hS hp h hx with ⟨hxW, hnx⟩ | ⟨k, hk, hpos, m, hm, hu, rfl⟩
      · exact .inl ⟨hxW, hnx⟩
      · refine .inr ⟨k, by rw [hp]; exact hk, hpos, ((greatest_spec (lmap k hk)).2 _).mpr ⟨List.mem_map_of_mem (memO.mpr ⟨hm, hu⟩), fun o ho huo => ?_⟩, fun w hw hn hg => ?_⟩
        · obtain ⟨m', hm', rfl⟩ := List.mem_map.mp ho
          have hm' := memO.mp hm'
          exact hx.2 _ (low_ok hS hp h hk hpos hm'.1 hm'.2).2.2.1 huo
        · cases c : under (low k (co p k) m) w with
          | false => rfl
          | true =>
            have e := hx.2 w (kept_ok h hw hn).1 c
            obtain ⟨ll, hul, hD, hge, hkk⟩ := low_ok hS hp h hk hpos hm hu
            have hMw := (h.mem w).mp hw
            have e2 := hMw.2 m ((h.mem m).mp hm).1 (by rw [e]; exact hul)
            rw [e2] at hu
            rw [hn] at hu; cases hu
theorem walls_nil (h0 : ∀ i, i < t.length → 0 ≤ co t i) : Walls t [] [t] := by
  refine ⟨by simp, fun x => ?_⟩
  rw [List.mem_singleton]
  have bt : Dn t [] t := ⟨⟨rfl, fun i hi => ⟨h0 i hi, Int.le_refl _⟩⟩, by simp⟩
  constructor
  · rintro rfl
    exact ⟨bt, fun y hy hu => (under_antisymm hy.1.1.symm hu ((under_iff hy.1.1).mpr fun i hi => (hy.1.2 i (by rw [← hy.1.1]; exact hi)).2)).symm⟩
  · intro hx
    exact (hx.2 t bt ((under_iff hx.len).mpr fun i hi => (hx.1.1.2 i (by rw [← hx.len]; exact hi)).2)).symm
theorem Walls.len (h : Walls t S W) : Len t.length W := fun w hw => ((h.mem w).mp hw).len
end
end Lw36

/-! dual, least_places: what they answer -/
namespace Lw36
open
    PySem PySem.Spec PyProof.Rows L2
variable {n : Nat} {s : Pur.Pn}
theorem dualGo_walls {t : List Int} : ∀ {ps S W W' : List (List Int)}, Len t.length S → Len t.length ps → Walls t S W → dualGo W ps = some W' → Walls t (S ++ ps) W'
  | [], S, W, W', _, _, h, e => by simp only [dualGo] at e; cases e; simpa using h
  | p :: ps, S, W, W', hS, hp, h, e => by
    simp only [dualGo] at e
    split at e
    · have hp1 := hp p (List.mem_cons_self ..)
      have := dualGo_walls (S := S ++ [p]) (fun q hq => by
        rcases
            List.mem_append.mp hq with hq | hq
        · exact hS q hq
        · rw [List.mem_singleton.mp hq]; exact hp1) (fun q hq => hp q (List.mem_cons_of_mem _ hq)) (walls_step hS hp1 h) e
      simpa using this
    · cases e
/-- few walls all the way -/
theorem dualGo_some {t : List Int} : ∀ {ps S W : List (List Int)}, Len t.length S → Len t.length ps → Walls t S W → (∀ pre post V, ps = pre ++ post → Walls t (S ++ pre) V → V.length ≤ 2000) → ∃ W', dualGo W ps = some W'
  | [], S, W, _, _, _, _ => ⟨W, rfl⟩
  | p :: ps, S, W, hS, hp, h, hb => by
    have hp1 := hp p (List.mem_cons_self ..)
    have h1 := walls_step hS hp1 h
    have hz := hb [p] ps _ rfl h1
    simp only [dualGo]
    rw [if_pos hz]
    exact dualGo_some (S := S ++ [p]) (fun q hq => by
        rcases
            List.mem_append.mp hq with hq | hq
        · exact hS q hq
        · rw [List.mem_singleton.mp hq]; exact hp1) (fun q hq => hp q (List.mem_cons_of_mem _ hq)) h1 fun pre post V e hV => hb (p :: pre) post V (by rw [e]; rfl) (by simpa using hV)
theorem dualGo_few : ∀ {ps W W' : List (List Int)}, W.length ≤ 2000 → dualGo W ps = some W' → W'.length ≤ 2000
  | [], W, W', h, e => by simp only [dualGo] at e; cases e; exact h
  | p :: ps, W, W', h, e => by
    simp only [dualGo] at e
    split at e
    · rename_i c; exact dualGo_few c e
    · cases e
theorem x_dual_loop {t : List Int} (hd : t.length ≤ 12) {x0 x1 : Option Pur.Sl} : ∀ {ps S W : List (List Int)} {x3 : Option Pur.Sl}, Len t.length S → Len t.length ps → Walls t S W → W.length ≤ 2000 →
    (∀ W', dualGo W ps = some W' → ∃ x3', Pur.forGo (fun d δ' => Pur.bnd (Pur.ofO (Pur.bindS (.v 3) d δ')) fun δ'' => Pur.exs (cal (n + 3)) mk 0 dBody δ'') (ps.map Pur.ofInts) [x0, x1, some (.val (.lst (W.map Pur.ofInts))), x3] s = .ok (.next [x0, x1, some (.val (.lst (W'.map Pur.ofInts))), x3']) s) ∧
    (dualGo W ps = none → Pur.forGo (fun d δ' => Pur.bnd (Pur.ofO (Pur.bindS (.v 3) d δ')) fun δ'' => Pur.exs (cal (n + 3)) mk 0 dBody δ'') (ps.map Pur.ofInts) [x0, x1, some (.val (.lst (W.map Pur.ofInts))), x3] s = .exc "TooMany" tooMany s)
  | [], S, W, x3, _, _, _, _ => ⟨fun W' e => (by simp only [dualGo] at e; cases e; exact ⟨x3, rfl⟩), fun e => (by simp [dualGo] at e)⟩
  | p :: ps, S, W, x3, hS, hp, h, hz => by
    have hp1 := hp p (List.mem_cons_self ..)
    have h1 := walls_step hS hp1 h
    have body := x_dBody (n := n) (s := s) (x0 := x0) (x1 := x1) hp1 hd h.len hz
    have step : ∀ {r}, Pur.exs (cal (n + 3)) mk 0 dBody [x0, x1, some (.val (.lst (W.map Pur.ofInts))), some (.val (Pur.ofInts p))] s = r →
        (fun d δ' => Pur.bnd (Pur.ofO (Pur.bindS (.v 3) d δ')) fun δ'' => Pur.exs (cal (n + 3)) mk 0 dBody δ'') (Pur.ofInts p) [x0, x1, some (.val (.lst (W.map Pur.ofInts))), x3] s = r := fun {r} e => by
      simp only [Pur.bindS, List.length_cons, List.length_nil, List.set_cons_succ, List.set_cons_zero, Nat.reduceAdd, Nat.reduceLT, if_true, Pur.ofO_ret, Pur.bnd_ret]
      exact e
    by_cases c : (cutBy W p).length ≤ 2000
    · rw [if_pos c] at body
      obtain ⟨i1, i2⟩ := x_dual_loop hd (x0 := x0) (x1 := x1) (ps := ps) (S := S ++ [p]) (W := cutBy W p) (x3 := some (.val (Pur.ofInts p))) (fun q hq => by
        rcases
            List.mem_append.mp hq with hq | hq
        · exact hS q hq
        · rw [List.mem_singleton.mp hq]; exact hp1) (fun q hq => hp q (List.mem_cons_of_mem _ hq)) h1 c
      refine ⟨fun W' e => ?_, fun e => ?_⟩
      · simp only [dualGo] at e
        rw [if_pos c] at e
        obtain ⟨x3', e'⟩ := i1 W' e
        refine ⟨x3', ?_⟩
        rw [List.map_cons, Pur.forGo, Pur.bnd_okE (step body)]
        exact e'
      · simp only [dualGo] at e
        rw [if_pos c] at e
        rw [List.map_cons, Pur.forGo, Pur.bnd_okE (step body)]
        exact i2 e
    · rw [if_neg c] at body
      refine ⟨fun W' e => (by simp only [dualGo] at e; rw [if_neg c] at e; cases e), fun e => ?_⟩
      rw [List.map_cons, Pur.forGo, Pur.bnd_excE (step body)]
theorem r_dual_of {t : List Int} {ps : List (List Int)} (hd : t.length ≤ 12) (hd0 : 0 < t.length) (ht : ∀ i, i < t.length → 0 ≤ co t i) (hp : Len t.length ps) :
    (∀ W, dualGo [t] ps = some W → cal (n + 4) "dual_of" [Pur.ofInts t, .lst (ps.map Pur.ofInts)] s = .ok (.tup ((Pur.srtT W).map Pur.ofInts)) s) ∧
    (dualGo [t] ps = none → cal (n + 4) "dual_of" [Pur.ofInts t, .lst (ps.map Pur.ofInts)] s = .exc "TooMany" tooMany s) := by
  have W0 := walls_nil ht
  obtain ⟨i1, i2⟩ := x_dual_loop (n := n) (s := s) hd (x0 := some (.val (Pur.ofInts t))) (x1 := some (.val (.lst (ps.map Pur.ofInts)))) (S := []) (W := [t]) (x3 := none) (fun q hq => by cases hq) hp W0 (by simp)
  have first : ∀ {r : List Pur.CSt}, Pur.exs (cal (n + 3)) mk 0 (.asg (.v 2) (.lst [(.var 0)]) :: r) [some (.val (Pur.ofInts t)), some (.val (.lst (ps.map Pur.ofInts))), none, none] s = Pur.exs (cal (n + 3)) mk 0 r [some (.val (Pur.ofInts t)), some (.val (.lst (ps.map Pur.ofInts))), some (.val (.lst ([t].map Pur.ofInts))), none] s := fun {r} => Pur.exs_next (by kernel_rfl)
  have loopE : ∀ {res}, Pur.forGo (fun d δ' => Pur.bnd (Pur.ofO (Pur.bindS (.v 3) d δ')) fun δ'' => Pur.exs (cal (n + 3)) mk 0 dBody δ'') (ps.map Pur.ofInts) [some (.val (Pur.ofInts t)), some (.val (.lst (ps.map Pur.ofInts))), some (.val (.lst ([t].map Pur.ofInts))), none] s = res →
      Pur.ex (cal (n + 3)) mk 0 (.for_ (.v 3) (.iVal (.var 1)) dBody) [some (.val (Pur.ofInts t)), some (.val (.lst (ps.map Pur.ofInts))), some (.val (.lst ([t].map Pur.ofInts))), none] s = res := fun {res} e => by
    simp only [Pur.ex, Pur.evIS, Pur.men, Pur.evI, Pur.ev, Pur.bnd_assoc, Pur.bnd_ret]
    simp only [Pur.vw_A, Pur.vwA, Pur.vw1_v, List.getElem?_cons_zero, List.getElem?_cons_succ, Option.join, Option.bind_some, id, Pur.ofO_ret, Pur.bnd_ret, Pur.seqD]
    simp only [Pur.isRng, Pur.frz_A, Pur.frzA, Pur.frz1_v, Pur.frz1_n]
    exact e
  refine ⟨fun W e => ?_, fun e => ?_⟩
  · obtain ⟨x3', e'⟩ := i1 W e
    have hW := dualGo_walls (S := []) (fun q hq => by cases hq) hp W0 e
    have hne : ∀ l ∈ W, l ≠ [] := fun l hl z => by
      have := hW.len l hl
      rw [z] at this
      simp at this
      omega
    rw [un_dual_of, c_dual_of_eq]
    refine Pur.runFn_ret ?_
    show Pur.exs _ _ _ _ [some (.val (Pur.ofInts t)), some (.val (.lst (ps.map Pur.ofInts))), none, none] s = _
    rw [first, Pur.exs_next (loopE e')]
    refine Pur.exs_ret ?_
    simp only [Pur.ex, Pur.evS, Pur.men, Pur.mens, Pur.ev, Pur.evs, Pur.bnd_assoc, Pur.bnd_ret]
    have e2 := Pur.sorted_places hne
    simp [Pur.vw_A, Pur.vwA, Pur.vw1_v, Pur.ofO_ret, Pur.bnd_ret, Pur.ret_E, Pur.biD, Pur.arg1, e2, Pur.biTuple]
  · rw [un_dual_of, c_dual_of_eq]
    refine Pur.runFn_exc ?_
    show Pur.exs _ _ _ _ [some (.val (Pur.ofInts t)), some (.val (.lst (ps.map Pur.ofInts))), none, none] s = _
    rw [first]
    exact Pur.exs_exc (loopE (i2 e))
end Lw36

namespace Lw36
open
    PySem PySem.Spec PyProof.Rows L2
variable {n : Nat} {s : Pur.Pn}
/-- tops that are taken -/
structure Tops (t : List Int) : Prop where
  lo : 0 < t.length
  hi : t.length ≤ 12
  in_ : ∀ x ∈ t, 1 ≤ x ∧ x ≤ 20
theorem Tops.nn {t : List Int} (h : Tops t) : ∀ i, i < t.length → 0 ≤ co t i := fun i hi => by
  have := h.in_ (co t i) (by
    unfold co
    rw
        [List.getD_eq_getElem?_getD, List.getElem?_eq_getElem hi]
    exact List.getElem_mem hi)
  omega
theorem r_need_tops {t : List Int} (h : Tops t) : cal (n + 3) "need_tops" [Pur.ofInts t] s = .ok (Pur.ofInts t) s := by
  rw [un_need_tops]
  refine Pur.runFn_ret ?_
  show Pur.exs _ _ _ c_need_tops [some (.val (Pur.ofInts t)), none] s = _
  have h1 : (1 : Int) ≤ (t.length : Int) := by have := h.lo; omega
  have h2 : (t.length : Int) ≤ 12 := by have := h.hi; omega
  have a1 : Pur.ex (cal (n + 2)) mk 0 (.ite (.or (.not (.call "is_listed" [(.var 0)])) (.not (.chain .LtE .LtE (.const (.int 1)) (.bi .len [(.var 0)]) (.const (.int 12))))) [.rais "BadValue" [(.const (.str "tops"))]] []) [some (.val (Pur.ofInts t)), none] s = .ok (.next [some (.val (Pur.ofInts t)), none]) s := by
    simp only [Pur.ex, Pur.evTS, Pur.men, Pur.mens, Pur.ev, Pur.evs, Pur.bnd_assoc, Pur.bnd_ret]
    simp [Pur.vw_A, Pur.vwA, Pur.vw1_v, Pur.ofO_ret, Pur.bnd_ret, Pur.ofInts]
    rw [Pur.bnd_okE r_listedT]
    simp [Pur.truD, Pur.ofO_ret, Pur.bnd_ret, Pur.biD, Pur.arg1, Pur.biLen, Pur.cmpD, h1, h2, Pur.exs_nilE, Pur.bnd_assoc]
  have a2 : Pur.ex (cal (n + 2)) mk 0 (.ite (.not (.bi .all [(.lc [1] (.v 1) (.iVal (.var 0)) [] (.call "is_within" [(.var 1), (.const (.int 1)), (.const (.int 20))]))])) [.rais "BadValue" [(.const (.str "tops"))]] []) [some (.val (Pur.ofInts t)), none] s = .ok (.next [some (.val (Pur.ofInts t)), none]) s := by
    simp only [Pur.ex, Pur.evTS, Pur.men, Pur.mens, Pur.ev, Pur.evs, Pur.evI, Pur.evTs, Pur.bnd_assoc, Pur.bnd_ret]
    simp [Pur.vw_A, Pur.vwA, Pur.vw1_v, Pur.ofO_ret, Pur.bnd_ret, Pur.ofInts, Pur.seqD]
    rw [Pur.bnd_lcE (Pur.compGo_encM (r := fun i => .bl (decide (1 ≤ i) && decide (i ≤ 20))) fun i hi => ?_)]
    · have e : t.all (fun i => decide (1 ≤ i) && decide (i ≤ 20)) = true := List.all_eq_true.mpr fun i hi => by
        obtain ⟨a, b⟩ := h.in_ i hi
        simp [a, b]
      rw [List.nil_append, Pur.all_map, e]
      simp [Pur.truD, Pur.ofO_ret, Pur.bnd_ret, Pur.exs_nilE]
    · simp [Pur.bindT, Pur.wipeD, Pur.ofO_ret, Pur.bnd_ret]
      rw [Pur.bnd_okE r_is_within]
      rfl
  rw [c_need_tops, Pur.exs_next a1, Pur.exs_next a2]
  exact Pur.exs_ret (by kernel_rfl)
theorem r_need_places {t : List Int} {L : List (List Int)} (h : ∀ p ∈ L, isPlace t p = true) : cal (n + 4) "need_places" [Pur.ofInts t, .lst (L.map Pur.ofInts)] s = .ok (.lst (L.map Pur.ofInts)) s := by
  rw [un_need_places]
  refine Pur.runFn_ret ?_
  show Pur.exs _ _ _ c_need_places [some (.val (Pur.ofInts t)), some (.val (.lst (L.map Pur.ofInts))), none] s = _
  have a1 : Pur.ex (cal (n + 3)) mk 0 (.ite (.or (.not (.call "is_listed" [(.var 1)])) (.not (.bi .all [(.lc [2] (.v 2) (.iVal (.var 1)) [] (.call "is_place" [(.var 0), (.var 2)]))]))) [.rais "BadValue" [(.const (.str "places"))]] []) [some (.val (Pur.ofInts t)), some (.val (.lst (L.map Pur.ofInts))), none] s = .ok (.next [some (.val (Pur.ofInts t)), some (.val (.lst (L.map Pur.ofInts))), none]) s := by
    simp only [Pur.ex, Pur.evTS, Pur.men, Pur.mens, Pur.ev, Pur.evs, Pur.evI, Pur.evTs, Pur.bnd_assoc, Pur.bnd_ret]
    simp [Pur.vw_A, Pur.vwA, Pur.vw1_v, Pur.ofO_ret, Pur.bnd_ret, Pur.seqD]
    rw [Pur.bnd_okE r_listedL]
    simp only [Pur.truD, Pur.ofO_ret, Pur.bnd_ret, Bool.not_true, Bool.false_eq_true, if_false, Pur.bnd_assoc]
    rw [Pur.bnd_lcE (Pur.compGo_encM (r := fun p => .bl (isPlace t p)) fun p hp => ?_)]
    · have e : L.all (fun p => isPlace t p) = true := List.all_eq_true.mpr h
      rw [List.nil_append, Pur.all_map, e]
      simp [Pur.truD, Pur.ofO_ret, Pur.bnd_ret, Pur.exs_nilE]
    · simp [Pur.bindT, Pur.wipeD, Pur.ofO_ret, Pur.bnd_ret]
      rw [Pur.bnd_okE r_is_place]
      rfl
  rw [c_need_places, Pur.exs_next a1]
  refine Pur.exs_ret ?_
  simp only [Pur.ex, Pur.evS, Pur.men, Pur.mens, Pur.ev, Pur.evs, Pur.evI, Pur.evTs, Pur.bnd_assoc, Pur.bnd_ret]
  simp [Pur.vw_A, Pur.vwA, Pur.vw1_v, Pur.ofO_ret, Pur.bnd_ret, Pur.seqD]
  rw [Pur.bnd_lcE (Pur.compGo_encM (r := Pur.ofInts) fun p hp => ?_)]
  · simp [Pur.ret_E]
  · simp [Pur.bindT, Pur.wipeD, Pur.ofO_ret, Pur.bnd_ret, Pur.biD, Pur.arg1, Pur.biTuple, Pur.ofInts, Pur.ret_E]
theorem place_len {t p : List Int} (h : isPlace t p = true) : p.length = t.length := by
  unfold isPlace at h
  rw
      [Bool.and_eq_true, decide_eq_true_eq] at h
  exact h.1
theorem r_dual {t : List Int} {ps : List (List Int)} (h : Tops t) (hp : ∀ p ∈ ps, isPlace t p = true) :
    (∀ W, dualGo [t] ps = some W → cal (n + 5) "dual" [Pur.ofInts t, .lst (ps.map Pur.ofInts)] s = .ok (.tup ((Pur.srtT W).map Pur.ofInts)) s) ∧
    (dualGo [t] ps = none → cal (n + 5) "dual" [Pur.ofInts t, .lst (ps.map Pur.ofInts)] s = .exc "TooMany" tooMany s) := by
  obtain ⟨i1, i2⟩ := r_dual_of (n := n) (s := s) h.hi h.lo h.nn (fun p hpp => place_len (hp p hpp))
  have a1 : Pur.ex (cal (n + 4)) mk 0 (.asg (.v 2) (.call "need_tops" [(.var 0)])) [some (.val (Pur.ofInts t)), some (.val (.lst (ps.map Pur.ofInts))), none] s = .ok (.next [some (.val (Pur.ofInts t)), some (.val (.lst (ps.map Pur.ofInts))), some (.val (Pur.ofInts t))]) s := by
    simp only [Pur.ex, Pur.evS, Pur.men, Pur.mens, Pur.ev, Pur.evs, Pur.bnd_assoc, Pur.bnd_ret]
    simp [Pur.vw_A, Pur.vwA, Pur.vw1_v, Pur.ofO_ret, Pur.bnd_ret]
    rw [Pur.bnd_okE (r_need_tops (n := n + 1) h)]
    simp [Pur.ofO_ret, Pur.bnd_ret, Pur.ret_E, Pur.ofInts, Pur.D.flat, Pur.frz_A, Pur.frzA, Pur.frz1_v, Pur.frz1_n, Pur.bindS]
  have ar : Pur.evs (cal (n + 4)) [.var 2, .call "need_places" [(.var 2), (.var 1)]] [some (Pur.ofInts t), some (.lst (ps.map Pur.ofInts)), some (Pur.ofInts t)] s = .ok [Pur.ofInts t, .lst (ps.map Pur.ofInts)] s := by
    simp only [Pur.ev, Pur.evs, Pur.bnd_assoc, Pur.bnd_ret]
    simp [Pur.ofO_ret, Pur.bnd_ret]
    rw [Pur.bnd_okE (r_need_places (n := n) hp)]
    rfl
  have e0 : Pur.vw (Pur.men (.call "dual_of" [(.var 2), (.call "need_places" [(.var 2), (.var 1)])])) [some (.val (Pur.ofInts t)), some (.val (.lst (ps.map Pur.ofInts))), some (.val (Pur.ofInts t))] = [some (Pur.ofInts t), some (.lst (ps.map Pur.ofInts)), some (Pur.ofInts t)] := by kernel_rfl
  refine ⟨fun W e => ?_, fun e => ?_⟩
  · rw [un_dual]
    refine Pur.runFn_ret ?_
    show Pur.exs _ _ _ c_dual [some (.val (Pur.ofInts t)), some (.val (.lst (ps.map Pur.ofInts))), none] s = _
    rw [c_dual, Pur.exs_next a1]
    refine Pur.exs_ret ?_
    rw [Pur.ex, Pur.evS, e0, Pur.ev, Pur.bnd_assoc, Pur.bnd_assoc, Pur.bnd_okE ar, Pur.bnd_okE (i1 W e)]
    rfl
  · rw [un_dual]
    refine Pur.runFn_exc ?_
    show Pur.exs _ _ _ c_dual [some (.val (Pur.ofInts t)), some (.val (.lst (ps.map Pur.ofInts))), none] s = _
    rw [c_dual, Pur.exs_next a1]
    refine Pur.exs_exc ?_
    rw [Pur.ex, Pur.evS, e0, Pur.ev, Pur.bnd_assoc, Pur.bnd_assoc, Pur.bnd_okE ar, Pur.bnd_excE (i2 e)]
theorem r_least_places {t : List Int} {ps : List (List Int)} (h : Tops t) (hp : ∀ p ∈ ps, isPlace t p = true) (hl : ps.length ≤ 1000000) : cal (n + 5) "least_places" [Pur.ofInts t, .lst (ps.map Pur.ofInts)] s = .ok (.tup ((leastOf ps).map Pur.ofInts)) s := by
  have hne : ∀ l ∈ ps, l ≠ [] := fun l hl z => by
    have := place_len (hp l hl)
    rw [z] at this
    have := h.lo
    simp at *
    omega
  rw [un_least_places]
  refine Pur.runFn_ret ?_
  show Pur.exs _ _ _ c_least_places [some (.val (Pur.ofInts t)), some (.val (.lst (ps.map Pur.ofInts)))] s = _
  refine Pur.exs_ret ?_
  simp only [Pur.ex, Pur.evS, Pur.men, Pur.mens, Pur.ev, Pur.evs, Pur.bnd_assoc, Pur.bnd_ret]
  simp [Pur.vw_A, Pur.vwA, Pur.vw1_v, Pur.ofO_ret, Pur.bnd_ret]
  rw [Pur.bnd_okE (r_need_tops (n := n + 1) h), Pur.bnd_okE (r_need_places (n := n) hp), Pur.bnd_okE (r_least_of (n := n + 2) hne hl)]
  rfl
end Lw36

/-! the draws -/
namespace Lw36
open
    PySem PySem.Spec PyProof.Rows L2
variable {n : Nat}
/-- what a draw may change -/
structure Drawn (S S' : Pur.Pn) (k : Int) : Prop where
  cells : S'.cells = S.cells
  lo : 0 ≤ S'.at_
  hi : S'.at_ ≤ S.at_ + k
def wS1 : Pur.CSt := .ite (.cmp .Gt (.ix (.var 0) (.const (.int 2))) (.const (.int 0))) [.asg (.v 5) (.bi .int [(.ix (.var 0) (.const (.int 2)))]), .set 0 (.const (.int 2)) (.bin .FloorDiv (.var 5) (.var 1)), .ret (.bin .Mod (.bi .int [(.var 5)]) (.var 1))] []
def wS2 : Pur.CSt := .asg (.v 2) (.ix (.var 0) (.const (.int 1)))
def wS3 : Pur.CSt := .set 0 (.const (.int 1)) (.bin .Add (.var 2) (.const (.int 1)))
def wS4 : Pur.CSt := .asg (.v 3) (.bin .Add (.bin .Mult (.const (.int 71993)) (.var 2)) (.const (.int 31847)))
def wS5 : Pur.CSt := .ite (.cmp .NotEq (.ix (.var 0) (.const (.int 0))) (.lst [])) [.asg (.v 3) (.ix (.ix (.var 0) (.const (.int 0))) (.bin .Mod (.bi .int [(.var 2)]) (.bi .len [(.ix (.var 0) (.const (.int 0)))])))] []
def wS6 : Pur.CSt := .ite (.and (.cmp .Lt (.var 2) (.bi .len [(.ix (.var 0) (.const (.int 0)))])) (.cmp .GtE (.bi .abs [(.var 3)]) (.bin .Pow (.const (.int 10)) (.const (.int 18))))) [.asg (.v 5) (.bin .Add (.bin .Mult (.const (.int 2)) (.bin .Sub (.bi .abs [(.var 3)]) (.bin .Pow (.const (.int 10)) (.const (.int 18))))) (.bi .int [(.cmp .Lt (.var 3) (.const (.int 0)))])), .set 0 (.const (.int 2)) (.bin .FloorDiv (.bi .int [(.var 5)]) (.var 1)), .ret (.bin .Mod (.bi .int [(.var 5)]) (.var 1))] []
def wS7 : Pur.CSt := .asg (.v 4) (.bin .Mod (.bi .int [(.bin .Pow (.bin .Add (.bin .Add (.bin .Mod (.bi .int [(.var 3)]) (.const (.int 2147483489))) (.bin .Mult (.const (.int 71993)) (.var 2))) (.const (.int 1451))) (.const (.int 5)))]) (.const (.int 2147483563)))
def wS8 : Pur.CSt := .asg (.v 4) (.bin .Mod (.bi .int [(.bin .Pow (.bin .Add (.bin .Add (.bin .Mult (.var 4) (.bin .Add (.bin .Mult (.const (.int 2)) (.var 2)) (.const (.int 1451)))) (.bin .Mult (.bin .Mult (.const (.int 88427)) (.var 2)) (.var 2))) (.const (.int 71993))) (.const (.int 3)))]) (.const (.int 2147483587)))
def wS9 : Pur.CSt := .ret (.bin .Mod (.bi .int [(.bin .FloorDiv (.var 4) (.const (.int 64)))]) (.var 1))
theorem c_draw_eq : c__law_draw = [wS1, wS2, wS3, wS4, wS5, wS6, wS7, wS8, wS9] := rfl
section
variable {S : Pur.Pn} {m : Int} (h1 : 0 < m) (h2 : m < 1073741824)
include h1 h2
theorem w1a (hr : 0 < S.rest) : Pur.ex (cal n) mk 0 wS1 [some (.val .pen), some (.val (.int m)), none, none, none, none] S = .ok (.ret (.int (S.rest % m))) { S with rest := S.rest / m } := by
  simp only [wS1, Pur.ex, Pur.evTS, Pur.men, Pur.mens, Pur.ev, Pur.evs, Pur.bnd_assoc, Pur.bnd_ret]
  simp [Pur.vw_A, Pur.vwA, Pur.vw1_v, Pur.ofO_ret, Pur.bnd_ret, Pur.bnd_pen2, Pur.cmpD, hr, Pur.truD]
  rw [Pur.exs_next (s' := S) (δ' := [some (.val .pen), some (.val (.int m)), none, none, none, some (.val (.int S.rest))]) (by
    simp only [Pur.ex, Pur.evS, Pur.men, Pur.mens, Pur.ev, Pur.evs, Pur.bnd_assoc, Pur.bnd_ret]
    simp [Pur.vw_A, Pur.vwA, Pur.vw1_v, Pur.ofO_ret, Pur.bnd_ret, Pur.bnd_pen2, Pur.biD, Pur.arg1, Pur.biInt, Pur.D.flat, Pur.bindS, Pur.ret_E])]
  rw [Pur.exs_next (s' := { S with rest := S.rest / m }) (δ' := [some (.val .pen), some (.val (.int m)), none, none, none, some (.val (.int S.rest))]) (by
    simp only [Pur.ex, Pur.evS, Pur.men, Pur.mens, Pur.ev, Pur.evs, Pur.bnd_assoc, Pur.bnd_ret]
    simp [Pur.vw_A, Pur.vwA, Pur.vw1_v, Pur.ofO_ret, Pur.bnd_ret, Pur.binD, h1, h2, Pur.D.flat, Pur.isPen, Pur.bnd_set2, Pur.ret_E])]
  refine Pur.exs_ret ?_
  simp only [Pur.ex, Pur.evS, Pur.men, Pur.mens, Pur.ev, Pur.evs, Pur.bnd_assoc, Pur.bnd_ret]
  simp [Pur.vw_A, Pur.vwA, Pur.vw1_v, Pur.ofO_ret, Pur.bnd_ret, Pur.binD, h1, h2, Pur.biD, Pur.arg1, Pur.biInt, Pur.ret_E]
theorem w1b (hr : ¬ 0 < S.rest) : Pur.ex (cal n) mk 0 wS1 [some (.val .pen), some (.val (.int m)), none, none, none, none] S = .ok (.next [some (.val .pen), some (.val (.int m)), none, none, none, none]) S := by
  simp only [wS1, Pur.ex, Pur.evTS, Pur.men, Pur.mens, Pur.ev, Pur.evs, Pur.bnd_assoc, Pur.bnd_ret]
  simp [Pur.vw_A, Pur.vwA, Pur.vw1_v, Pur.ofO_ret, Pur.bnd_ret, Pur.bnd_pen2, Pur.cmpD, hr, Pur.truD, Pur.exs_nilE]
end
theorem w2 {S : Pur.Pn} {m : Int} : Pur.ex (cal n) mk 0 wS2 [some (.val .pen), some (.val (.int m)), none, none, none, none] S = .ok (.next [some (.val .pen), some (.val (.int m)), some (.val (.int S.at_)), none, none, none]) S := by
  simp only [wS2, Pur.ex, Pur.evS, Pur.men, Pur.mens, Pur.ev, Pur.evs, Pur.bnd_assoc, Pur.bnd_ret]
  simp [Pur.vw_A, Pur.vwA, Pur.vw1_v, Pur.ofO_ret, Pur.bnd_ret, Pur.bnd_pen1, Pur.D.flat, Pur.bindS, Pur.ret_E]
theorem w3 {S : Pur.Pn} {m a : Int} : Pur.ex (cal n) mk 0 wS3 [some (.val .pen), some (.val (.int m)), some (.val (.int a)), none, none, none] S = .ok (.next [some (.val .pen), some (.val (.int m)), some (.val (.int a)), none, none, none]) { S with at_ := a + 1 } := by
  simp only [wS3, Pur.ex, Pur.evS, Pur.men, Pur.mens, Pur.ev, Pur.evs, Pur.bnd_assoc, Pur.bnd_ret]
  simp [Pur.vw_A, Pur.vwA, Pur.vw1_v, Pur.ofO_ret, Pur.bnd_ret, Pur.binD, Pur.D.flat, Pur.isPen, Pur.bnd_set1, Pur.ret_E]
theorem w4 {S : Pur.Pn} {m a : Int} : Pur.ex (cal n) mk 0 wS4 [some (.val .pen), some (.val (.int m)), some (.val (.int a)), none, none, none] S = .ok (.next [some (.val .pen), some (.val (.int m)), some (.val (.int a)), some (.val (.int (71993 * a + 31847))), none, none]) S := by
  simp only [wS4, Pur.ex, Pur.evS, Pur.men, Pur.mens, Pur.ev, Pur.evs, Pur.bnd_assoc, Pur.bnd_ret]
  have e : Pur.small 71993 = true := by decide
  simp [Pur.vw_A, Pur.vwA, Pur.vw1_v, Pur.ofO_ret, Pur.bnd_ret, Pur.binD, e, Pur.D.flat, Pur.bindS, Pur.ret_E]
theorem w5 {S : Pur.Pn} {m a c0 : Int} (ha : 0 ≤ a) : ∃ c, Pur.ex (cal n) mk 0 wS5 [some (.val .pen), some (.val (.int m)), some (.val (.int a)), some (.val (.int c0)), none, none] S = .ok (.next [some (.val .pen), some (.val (.int m)), some (.val (.int a)), some (.val (.int c)), none, none]) S := by
  simp only [wS5, Pur.ex, Pur.evTS, Pur.men, Pur.mens, Pur.ev, Pur.evs, Pur.bnd_assoc, Pur.bnd_ret]
  simp [Pur.vw_A, Pur.vwA, Pur.vw1_v, Pur.ofO_ret, Pur.bnd_ret, Pur.bnd_pen0, Pur.cmpD, Pur.eq_lstNil, Pur.truD]
  by_cases hc : S.cells = []
  · exact ⟨c0, by simp [hc, Pur.exs_nilE]⟩
  · have hpos : 0 < S.cells.length := List.length_pos_iff.mpr hc
    have hm0 : 0 ≤ a % (S.cells.length : Int) := Int.emod_nonneg _ (by omega)
    have hml : a % (S.cells.length : Int) < (S.cells.length : Int) := Int.emod_lt_of_pos _ (by omega)
    obtain ⟨k, hk⟩ := Int.eq_ofNat_of_zero_le hm0
    have hkl : k < S.cells.length := by omega
    refine ⟨S.cells[k], ?_⟩
    simp [hc]
    rw [Pur.exs_next (s' := S) (δ' := [some (.val .pen), some (.val (.int m)), some (.val (.int a)), some (.val (.int S.cells[k])), none, none]) (by
      simp only [Pur.ex, Pur.evS, Pur.men, Pur.mens, Pur.ev, Pur.evs, Pur.bnd_assoc, Pur.bnd_ret]
      simp [Pur.vw_A, Pur.vwA, Pur.vw1_v, Pur.ofO_ret, Pur.bnd_ret, Pur.bnd_pen0, Pur.biD, Pur.arg1, Pur.biInt, Pur.biLen, Pur.binD, hpos, Pur.ixM_lst, hk, Pur.at_ints hkl, Pur.D.flat, Pur.bindS, Pur.ret_E]), Pur.exs_nilE]
end Lw36

namespace Lw36
open
    PySem PySem.Spec PyProof.Rows L2
variable {n : Nat}
def e18 : Int := 1000000000000000000
theorem pow18 : Pur.binD .Pow (.int 10) (.int 18) = some (.int e18) := by
  unfold Pur.binD e18
  simp only
  rw [if_pos (by decide)]
  rfl
/-- stop there, or go on -/
theorem w6 {S : Pur.Pn} {m a c : Int} (h1 : 0 < m) (h2 : m < 1073741824) :
    (Pur.ex (cal n) mk 0 wS6 [some (.val .pen), some (.val (.int m)), some (.val (.int a)), some (.val (.int c)), none, none] S = .ok (.next [some (.val .pen), some (.val (.int m)), some (.val (.int a)), some (.val (.int c)), none, none]) S) ∨
    ∃ r, Pur.ex (cal n) mk 0 wS6 [some (.val .pen), some (.val (.int m)), some (.val (.int a)), some (.val (.int c)), none, none] S = .ok (.ret (.int (r % m))) { S with rest := r / m } := by
  have hs : Pur.small 2 = true := by decide
  by_cases hc : a < (S.cells.length : Int) ∧ e18 ≤ (if c < 0 then -c else c)
  · refine .inr ⟨2 * ((if c < 0 then -c else c) - e18) + (if c < 0 then 1 else 0), ?_⟩
    simp only [wS6, Pur.ex, Pur.evTS, Pur.men, Pur.mens, Pur.ev, Pur.evs, Pur.bnd_assoc, Pur.bnd_ret]
    simp [Pur.vw_A, Pur.vwA, Pur.vw1_v, Pur.ofO_ret, Pur.bnd_ret, Pur.bnd_pen0, Pur.biD, Pur.arg1, Pur.biLen, Pur.biAbs, Pur.cmpD, Pur.truD, hc.1, pow18, hc.2, Pur.bnd_assoc]
    rw [Pur.exs_next (s' := S) (δ' := [some (.val .pen), some (.val (.int m)), some (.val (.int a)), some (.val (.int c)), none, some (.val (.int (2 * ((if c < 0 then -c else c) - e18) + (if c < 0 then 1 else 0))))]) (by
      simp only [Pur.ex, Pur.evS, Pur.men, Pur.mens, Pur.ev, Pur.evs, Pur.bnd_assoc, Pur.bnd_ret]
      simp [Pur.vw_A, Pur.vwA, Pur.vw1_v, Pur.ofO_ret, Pur.bnd_ret, Pur.biD, Pur.arg1, Pur.biAbs, pow18, Pur.cmpD, Pur.biInt, Pur.bnd_assoc]
      simp [Pur.binD, hs, Pur.ofO_ret, Pur.bnd_ret, Pur.D.flat, Pur.bindS, Pur.ret_E])]
    generalize 2 * ((if c < 0 then -c else c) - e18) + (if c < 0 then 1 else 0) = r
    rw [Pur.exs_next (s' := { S with rest := r / m }) (δ' := [some (.val .pen), some (.val (.int m)), some (.val (.int a)), some (.val (.int c)), none, some (.val (.int r))]) (by
      simp only [Pur.ex, Pur.evS, Pur.men, Pur.mens, Pur.ev, Pur.evs, Pur.bnd_assoc, Pur.bnd_ret]
      simp [Pur.vw_A, Pur.vwA, Pur.vw1_v, Pur.ofO_ret, Pur.bnd_ret, Pur.biD, Pur.arg1, Pur.biInt, Pur.binD, h1, h2, Pur.D.flat, Pur.isPen, Pur.bnd_set2, Pur.ret_E])]
    refine Pur.exs_ret ?_
    simp only [Pur.ex, Pur.evS, Pur.men, Pur.mens, Pur.ev, Pur.evs, Pur.bnd_assoc, Pur.bnd_ret]
    simp [Pur.vw_A, Pur.vwA, Pur.vw1_v, Pur.ofO_ret, Pur.bnd_ret, Pur.binD, h1, h2, Pur.biD, Pur.arg1, Pur.biInt, Pur.ret_E]
  · refine .inl ?_
    simp only [wS6, Pur.ex, Pur.evTS, Pur.men, Pur.mens, Pur.ev, Pur.evs, Pur.bnd_assoc, Pur.bnd_ret]
    by_cases h3 : a < (S.cells.length : Int)
    · have h4 : ¬ e18 ≤ (if c < 0 then -c else c) := fun z => hc ⟨h3, z⟩
      simp [Pur.vw_A, Pur.vwA, Pur.vw1_v, Pur.ofO_ret, Pur.bnd_ret, Pur.bnd_pen0, Pur.biD, Pur.arg1, Pur.biLen, Pur.biAbs, Pur.cmpD, Pur.truD, h3, pow18, h4, Pur.bnd_assoc, Pur.exs_nilE]
    · simp [Pur.vw_A, Pur.vwA, Pur.vw1_v, Pur.ofO_ret, Pur.bnd_ret, Pur.bnd_pen0, Pur.biD, Pur.arg1, Pur.biLen, Pur.cmpD, Pur.truD, h3, Pur.bnd_assoc, Pur.exs_nilE]
theorem w7 {S : Pur.Pn} {m a c : Int} (ha : 0 ≤ a) (hb : a ≤ 1000000) : ∃ x : Int, 0 ≤ x ∧ x < 2147483563 ∧ Pur.ex (cal n) mk 0 wS7 [some (.val .pen), some (.val (.int m)), some (.val (.int a)), some (.val (.int c)), none, none] S = .ok (.next [some (.val .pen), some (.val (.int m)), some (.val (.int a)), some (.val (.int c)), some (.val (.int x)), none]) S := by
  have hs : Pur.small 71993 = true := by decide
  have c1 := Int.emod_nonneg c (b := 2147483489) (by decide)
  have c2 := Int.emod_lt_of_pos c (b := 2147483489) (by decide)
  have hn : ((c % 2147483489 + 71993 * a + 1451).natAbs) < 2 ^ 64 := by omega
  refine ⟨((c % 2147483489 + 71993 * a + 1451) ^ 5) % 2147483563, Int.emod_nonneg _ (by decide), Int.emod_lt_of_pos _ (by decide), ?_⟩
  simp only [wS7, Pur.ex, Pur.evS, Pur.men, Pur.mens, Pur.ev, Pur.evs, Pur.bnd_assoc, Pur.bnd_ret]
  simp only [Pur.vw_A, Pur.vwA, Pur.vw1_v, Pur.ofO_ret, Pur.bnd_ret, List.getElem?_cons_succ, List.getElem?_cons_zero, Option.join, Option.bind_some, id, Pur.biD, Pur.arg1, Pur.biInt]
  have b1 : Pur.binD .Mod (.int c) (.int 2147483489) = some (.int (c % 2147483489)) := by simp [Pur.binD]
  have b2 : Pur.binD .Mult (.int 71993) (.int a) = some (.int (71993 * a)) := by simp [Pur.binD, hs]
  have b3 : ∀ x y : Int, Pur.binD .Add (.int x) (.int y) = some (.int (x + y)) := fun _ _ => rfl
  have b4 : Pur.binD .Pow (.int (c % 2147483489 + 71993 * a + 1451)) (.int 5) = some (.int ((c % 2147483489 + 71993 * a + 1451) ^ 5)) := by
    unfold Pur.binD
    simp only
    rw [if_pos ⟨by decide, by decide, hn⟩]
    rfl
  have b5 : ∀ x : Int, Pur.binD .Mod (.int x) (.int 2147483563) = some (.int (x % 2147483563)) := fun x => by simp [Pur.binD]
  simp only [b1, b2, b3, b4, b5, Pur.ofO_ret, Pur.bnd_ret]
  simp [Pur.D.flat, Pur.bindS, Pur.ret_E, Pur.ofO_ret]
theorem w8 {S : Pur.Pn} {m a c x : Int} (ha : 0 ≤ a) (hb : a ≤ 1000000) (hx : 0 ≤ x) (hx2 : x < 2147483563) : ∃ y : Int, 0 ≤ y ∧ Pur.ex (cal n) mk 0 wS8 [some (.val .pen), some (.val (.int m)), some (.val (.int a)), some (.val (.int c)), some (.val (.int x)), none] S = .ok (.next [some (.val .pen), some (.val (.int m)), some (.val (.int a)), some (.val (.int c)), some (.val (.int y)), none]) S := by
  have hs1 : Pur.small 2 = true := by decide
  have hs2 : Pur.small 88427 = true := by decide
  have hs3 : Pur.small x = true := by
    unfold Pur.small
    rw
        [Bool.and_eq_true, decide_eq_true_eq, decide_eq_true_eq]
    omega
  have hs4 : Pur.small a = true := by
    unfold Pur.small
    rw
        [Bool.and_eq_true, decide_eq_true_eq, decide_eq_true_eq]
    omega
  have m1 : 0 ≤ x * (2 * a + 1451) := Int.mul_nonneg hx (by omega)
  have m2 : x * (2 * a + 1451) ≤ 2147483563 * 2001451 := Int.mul_le_mul (by omega) (by omega) (by omega) (by omega)
  have m3 : 0 ≤ 88427 * a * a := Int.mul_nonneg (by omega) ha
  have m4 : 88427 * a * a ≤ 88427000000 * 1000000 := Int.mul_le_mul (by omega) hb ha (by omega)
  have hn : ((x * (2 * a + 1451) + 88427 * a * a + 71993).natAbs) < 2 ^ 64 := by
    generalize x * (2 * a + 1451) = u at *
    generalize 88427 * a * a = v at *
    omega
  refine ⟨((x * (2 * a + 1451) + 88427 * a * a + 71993) ^ 3) % 2147483587, Int.emod_nonneg _ (by decide), ?_⟩
  simp only [wS8, Pur.ex, Pur.evS, Pur.men, Pur.mens, Pur.ev, Pur.evs, Pur.bnd_assoc, Pur.bnd_ret]
  simp only [Pur.vw_A, Pur.vwA, Pur.vw1_v, Pur.ofO_ret, Pur.bnd_ret, List.getElem?_cons_succ, List.getElem?_cons_zero, Option.join, Option.bind_some, id, Pur.biD, Pur.arg1, Pur.biInt]
  have b1 : Pur.binD .Mult (.int 2) (.int a) = some (.int (2 * a)) := by simp [Pur.binD, hs1]
  have b2 : ∀ z, Pur.binD .Mult (.int x) (.int z) = some (.int (x * z)) := fun z => by simp [Pur.binD, hs3]
  have b3 : ∀ x y : Int, Pur.binD .Add (.int x) (.int y) = some (.int (x + y)) := fun _ _ => rfl
  have b4 : ∀ z, Pur.binD .Mult (.int 88427) (.int z) = some (.int (88427 * z)) := fun z => by simp [Pur.binD, hs2]
  have b6 : ∀ z, Pur.binD .Mult (.int z) (.int a) = some (.int (z * a)) := fun z => by simp [Pur.binD, hs4]
  have b7 : Pur.binD .Pow (.int (x * (2 * a + 1451) + 88427 * a * a + 71993)) (.int 3) = some (.int ((x * (2 * a + 1451) + 88427 * a * a + 71993) ^ 3)) := by
    unfold Pur.binD
    simp only
    rw [if_pos ⟨by decide, by decide, hn⟩]
    rfl
  have b5 : ∀ x : Int, Pur.binD .Mod (.int x) (.int 2147483587) = some (.int (x % 2147483587)) := fun x => by simp [Pur.binD]
  simp only [b1, b2, b3, b4, Pur.ofO_ret, Pur.bnd_ret]
  simp only [b6, b3, Pur.ofO_ret, Pur.bnd_ret]
  simp only [b7, b5, Pur.ofO_ret, Pur.bnd_ret]
  simp [Pur.D.flat, Pur.bindS, Pur.ret_E, Pur.ofO_ret]
theorem w9 {S : Pur.Pn} {m a c y : Int} (h1 : 0 < m) : Pur.ex (cal n) mk 0 wS9 [some (.val .pen), some (.val (.int m)), some (.val (.int a)), some (.val (.int c)), some (.val (.int y)), none] S = .ok (.ret (.int ((y / 64) % m))) S := by
  simp only [wS9, Pur.ex, Pur.evS, Pur.men, Pur.mens, Pur.ev, Pur.evs, Pur.bnd_assoc, Pur.bnd_ret]
  simp [Pur.vw_A, Pur.vwA, Pur.vw1_v, Pur.ofO_ret, Pur.bnd_ret, Pur.binD, h1, Pur.biD, Pur.arg1, Pur.biInt, Pur.ret_E]
theorem r_draw {S : Pur.Pn} {m : Int} (h1 : 0 < m) (h2 : m < 1073741824) (ha : 0 ≤ S.at_) (hb : S.at_ ≤ 1000000) : ∃ v S', cal (n + 1) "_law_draw" [.pen, .int m] S = .ok (.int v) S' ∧ 0 ≤ v ∧ v < m ∧ Drawn S S' 1 := by
  have fin : ∀ {r : Int} {S' : Pur.Pn}, (∀ x : Pur.Rs Pur.Fl, x = .ok (.ret (.int (r % m))) S' → Pur.exs (cal n) mk 0 c__law_draw [some (.val .pen), some (.val (.int m)), none, none, none, none] S = x → cal (n + 1) "_law_draw" [.pen, .int m] S = .ok (.int (r % m)) S') := fun {r S'} x e1 e2 => by
    rw [un__law_draw]
    refine Pur.runFn_ret ?_
    show Pur.exs _ _ _ c__law_draw [some (.val .pen), some (.val (.int m)), none, none, none, none] S = _
    rw [e2, e1]
  by_cases hr : 0 < S.rest
  · refine ⟨S.rest % m, _, fin (r := S.rest) (S' := { S with rest := S.rest / m }) _ rfl (by rw [c_draw_eq]; exact Pur.exs_ret (w1a h1 h2 hr)), Int.emod_nonneg _ (by omega), Int.emod_lt_of_pos _ h1, rfl, ha, by show S.at_ ≤ _; omega⟩
  · obtain ⟨c, e5⟩ := w5 (n := n) (S := { S with at_ := S.at_ + 1 }) (m := m) (c0 := 71993 * S.at_ + 31847) ha
    have pre : Pur.exs (cal n) mk 0 c__law_draw [some (.val .pen), some (.val (.int m)), none, none, none, none] S = Pur.exs (cal n) mk 0 [wS6, wS7, wS8, wS9] [some (.val .pen), some (.val (.int m)), some (.val (.int S.at_)), some (.val (.int c)), none, none] { S with at_ := S.at_ + 1 } := by
      rw [c_draw_eq, Pur.exs_next (w1b h1 h2 hr), Pur.exs_next w2, Pur.exs_next w3, Pur.exs_next w4, Pur.exs_next e5]
    rcases w6 (n := n) (S := { S with at_ := S.at_ + 1 }) (a := S.at_) (c := c) h1 h2 with e6 | ⟨r, e6⟩
    · obtain ⟨x, x1, x2, e7⟩ := w7 (n := n) (S := { S with at_ := S.at_ + 1 }) (m := m) (c := c) ha hb
      obtain ⟨y, y1, e8⟩ := w8 (n := n) (S := { S with at_ := S.at_ + 1 }) (m := m) (c := c) ha hb x1 x2
      refine ⟨(y / 64) % m, _, fin (r := y / 64) (S' := { S with at_ := S.at_ + 1 }) _ rfl (by rw [pre, Pur.exs_next e6, Pur.exs_next e7, Pur.exs_next e8]; exact Pur.exs_ret (w9 h1)), Int.emod_nonneg _ (by omega), Int.emod_lt_of_pos _ h1, rfl, by show 0 ≤ S.at_ + 1; omega, Int.le_refl _⟩
    · refine ⟨r % m, _, fin (r := r) (S' := { S with at_ := S.at_ + 1, rest := r / m }) _ rfl (by rw [pre]; exact Pur.exs_ret e6), Int.emod_nonneg _ (by omega), Int.emod_lt_of_pos _ h1, rfl, by show 0 ≤ S.at_ + 1; omega, Int.le_refl _⟩
end Lw36

/-! the law's own places -/
namespace Lw36
open
    PySem PySem.Spec PyProof.Rows L2
variable {n : Nat} {s : Pur.Pn}
theorem range_nat (k : Nat) : Pur.rangeD 0 (k : Int) = (List.range k).map fun (i : Nat) => Pur.D.int (i : Int) := by
  unfold Pur.rangeD
  simp
def row1 (x : Nat) (pl : List Int) : List (List Int) := (List.range (x + 1)).map fun (i : Nat) => pl ++ [(i : Int)]
def ext1 (F : List (List Int)) (x : Nat) : List (List Int) := F.flatMap (row1 x)
def placesOf (ts : List Nat) : List (List Int) := ts.foldl ext1 [[]]
def pB1 : List Pur.CSt := [.ext 3 (.lc [5] (.v 5) (.iRng1 (.bin .Add (.var 2) (.const (.int 1)))) [] (.bin .Add (.var 4) (.tup [(.var 5)])))]
def pB2 : List Pur.CSt := [.own 3 (.lst []), .for_ (.v 4) (.iVal (.var 1)) pB1, .asg (.v 1) (.var 3)]
theorem bin_add (x y : Int) : Pur.binD .Add (.int x) (.int y) = some (.int (x + y)) := rfl
theorem bin_app {a b : List Pur.D} (h : a.length + b.length ≤ 1000000) : Pur.binD .Add (.tup a) (.tup b) = some (.tup (a ++ b)) := by
  unfold Pur.binD
  simp only
  rw [if_pos (by rw [sizeLine_eq]; omega)]
theorem row1_len (x : Nat) (pl : List Int) : (row1 x pl).length = x + 1 := by unfold row1; simp
def gRow (x : Nat) (G : List (List Int)) (pl : List Int) : List (List Int) := G ++ row1 x pl
def pS1 : Pur.CSt := .ext 3 (.lc [5] (.v 5) (.iRng1 (.bin .Add (.var 2) (.const (.int 1)))) [] (.bin .Add (.var 4) (.tup [(.var 5)])))
theorem pB1_eq : pB1 = [pS1] := rfl
theorem x_pS1 {G : List (List Int)} {pl : List Int} {x : Nat} {x0 x1 : Option Pur.Sl} (hx : x ≤ 1000) (hG : G.length + (row1 x pl).length ≤ 16777216) (hp : pl.length ≤ 1000) :
    Pur.ex (cal n) mk 0 pS1 [x0, x1, some (.val (.int (x : Int))), some (.own (G.map Pur.ofInts)), some (.val (Pur.ofInts pl)), none] s = .ok (.next [x0, x1, some (.val (.int (x : Int))), some (.own ((gRow x G pl).map Pur.ofInts)), some (.val (Pur.ofInts pl)), none]) s := by
  have ba : Pur.binD .Add (.int (x : Int)) (.int 1) = some (.int ((x + 1 : Nat) : Int)) := by rw [bin_add]; rfl
  have hr : Pur.rng1D (.int ((x + 1 : Nat) : Int)) = some ((List.range (x + 1)).map fun (i : Nat) => Pur.D.int (i : Int)) := by rw [Pur.rng1_ok (by omega), range_nat]
  simp only [pS1, Pur.ex, Pur.evS, Pur.men, Pur.mens, Pur.evI, Pur.ev, Pur.evs, Pur.evTs, Pur.bnd_assoc, Pur.bnd_ret]
  have hv : (Pur.vw ([2] ++ [] ++ [] ++ ([4] ++ ([5] ++ []))) [x0, x1, some (.val (.int (x : Int))), some (.own (G.map Pur.ofInts)), some (.val (Pur.ofInts pl)), none])[2]?.join = some (.int (x : Int)) := by rw [Pur.vw_A]; rfl
  have ho : Pur.ownAt [x0, x1, some (.val (.int (x : Int))), some (.own (G.map Pur.ofInts)), some (.val (Pur.ofInts pl)), none] 3 = some (G.map Pur.ofInts) := rfl
  rw [ho, Pur.bnd_ofOE, hv, Pur.bnd_ofOE, ba, Pur.bnd_ofOE, hr, Pur.bnd_ofOE]
  rw [Pur.bnd_lcE (Pur.compGo_encM (r := fun (i : Nat) => Pur.ofInts (pl ++ [(i : Int)])) fun i hi => ?_)]
  · have e : (List.range (x + 1)).map (fun (i : Nat) => Pur.ofInts (pl ++ [(i : Int)])) = (row1 x pl).map Pur.ofInts := by unfold row1; rw [List.map_map]; rfl
    rw [List.nil_append, e]
    simp [Pur.D.flat, Pur.frz_A, Pur.frzA, Pur.frz1_f, Pur.frz1_v, Pur.frz1_n, Pur.lstOf, Pur.bnd_ret, Pur.ofO_ret, Pur.ret_E, hG, gRow, Pur.ownAt]
  · have hl : (pl.map Pur.D.int).length + [Pur.D.int (i : Int)].length ≤ 1000000 := by
      rw [List.length_map]
      simp only [List.length_singleton]
      omega
    simp [Pur.vw_A, Pur.vwA, Pur.vw1_v, Pur.bindT, Pur.wipeD, Pur.ofO_ret, Pur.bnd_ret, Pur.ofInts, bin_app hl, Pur.ret_E]
theorem x_pB1 {G : List (List Int)} {pl : List Int} {x : Nat} {x0 x1 : Option Pur.Sl} (hx : x ≤ 1000) (hG : G.length ≤ 1000000) (hp : pl.length ≤ 1000) :
    Pur.exs (cal n) mk 0 pB1 [x0, x1, some (.val (.int (x : Int))), some (.own (G.map Pur.ofInts)), some (.val (Pur.ofInts pl)), none] s = .ok (.next [x0, x1, some (.val (.int (x : Int))), some (.own ((gRow x G pl).map Pur.ofInts)), some (.val (Pur.ofInts pl)), none]) s := by
  have hz : G.length + (row1 x pl).length ≤ 16777216 := by rw [row1_len]; omega
  rw [pB1_eq, Pur.exs_next (x_pS1 hx hz hp), Pur.exs_nilE]
theorem ext1_len (F : List (List Int)) (x : Nat) : (ext1 F x).length = F.length * (x + 1) := by
  unfold ext1
  induction F with
  | nil => simp
  | cons f F ih => rw [List.flatMap_cons, List.length_append, ih, row1_len, List.length_cons, Nat.succ_mul]; omega
theorem gRow_len (x : Nat) : ∀ (l G : List (List Int)), (l.foldl (gRow x) G).length = G.length + l.length * (x + 1) := by
  intro l
  induction l with
  | nil => simp
  | cons a l ih => intro G; rw [List.foldl_cons, ih, gRow, List.length_append, row1_len, List.length_cons, Nat.succ_mul]; omega
theorem gRow_all (x : Nat) : ∀ (l G : List (List Int)), l.foldl (gRow x) G = G ++ l.flatMap (row1 x) := by
  intro l
  induction l with
  | nil => simp
  | cons a l ih => intro G; rw [List.foldl_cons, ih, List.flatMap_cons, gRow, List.append_assoc]
theorem x_pIn {F : List (List Int)} {x d : Nat} {x0 x1 x4 : Option Pur.Sl} (hx : x ≤ 1000) (hF : F.length * (x + 1) ≤ 1000000) (hl : Len d F) (hd : d ≤ 1000) :
    ∃ x4', Pur.forGo (fun d δ' => Pur.bnd (Pur.ofO (Pur.bindS (.v 4) d δ')) fun δ'' => Pur.exs (cal n) mk 0 pB1 δ'') (F.map Pur.ofInts) [x0, x1, some (.val (.int (x : Int))), some (.own (([] : List (List Int)).map Pur.ofInts)), x4, none] s = .ok (.next [x0, x1, some (.val (.int (x : Int))), some (.own ((ext1 F x).map Pur.ofInts)), x4', none]) s := by
  obtain ⟨δ', e, x4', rfl⟩ := Pur.forGo_fold (body := fun d δ' => Pur.bnd (Pur.ofO (Pur.bindS (.v 4) d δ')) fun δ'' => Pur.exs (cal n) mk 0 pB1 δ'') Pur.ofInts (gRow x)
    (fun G δ => ∃ x4, δ = [x0, x1, some (.val (.int (x : Int))), some (.own (G.map Pur.ofInts)), x4, none]) (s := s) (xs := F) (b0 := []) (δ := [x0, x1, some (.val (.int (x : Int))), some (.own (([] : List (List Int)).map Pur.ofInts)), x4, none])
    ⟨x4, rfl⟩ (by
      rintro pre pl post e δ ⟨x4, rfl⟩
      have hpre : pre.length ≤ F.length := by rw [e, List.length_append]; omega
      have hm : pre.length * (x + 1) ≤ F.length * (x + 1) := Nat.mul_le_mul_right _ hpre
      have hlp := hl pl (by rw [e]; simp)
      have hb := x_pB1 (n := n) (s := s) (G := pre.foldl (gRow x) []) (pl := pl) (x := x) (x0 := x0) (x1 := x1) hx (by rw [gRow_len, List.length_nil]; omega) (by omega)
      have hbind : Pur.bindS (.v 4) (Pur.ofInts pl) [x0, x1, some (.val (.int (x : Int))), some (.own ((pre.foldl (gRow x) []).map Pur.ofInts)), x4, none] = some [x0, x1, some (.val (.int (x : Int))), some (.own ((pre.foldl (gRow x) []).map Pur.ofInts)), some (.val (Pur.ofInts pl)), none] := by
        simp [Pur.bindS]
      refine ⟨_, ?_, some (.val (Pur.ofInts pl)), rfl⟩
      rw [hbind, Pur.bnd_ofOE]
      exact hb)
  rw [gRow_all, List.nil_append] at e
  exact ⟨x4', e⟩
def pT1 : Pur.CSt := .own 3 (.lst [])
def pT2 : Pur.CSt := .for_ (.v 4) (.iVal (.var 1)) pB1
def pT3 : Pur.CSt := .asg (.v 1) (.var 3)
theorem pB2_eq : pB2 = [pT1, pT2, pT3] := rfl
theorem x_pT1 {F : List (List Int)} {x : Nat} {x0 x3 x4 : Option Pur.Sl} : Pur.ex (cal n) mk 0 pT1 [x0, some (.val (.lst (F.map Pur.ofInts))), some (.val (.int (x : Int))), x3, x4, none] s = .ok (.next [x0, some (.val (.lst (F.map Pur.ofInts))), some (.val (.int (x : Int))), some (.own (([] : List (List Int)).map Pur.ofInts)), x4, none]) s := by
  simp only [pT1, Pur.ex, Pur.evS, Pur.men, Pur.mens, Pur.ev, Pur.evs, Pur.bnd_assoc, Pur.bnd_ret]
  simp [Pur.D.flat, Pur.frz_A, Pur.frzA, Pur.frz1_f, Pur.ofO_ret, Pur.lstOf, Pur.ret_E]
theorem x_pT2 {F : List (List Int)} {x : Nat} {x0 x3 x4 : Option Pur.Sl} {r} (e : Pur.forGo (fun d δ' => Pur.bnd (Pur.ofO (Pur.bindS (.v 4) d δ')) fun δ'' => Pur.exs (cal n) mk 0 pB1 δ'') (F.map Pur.ofInts) [x0, some (.val (.lst (F.map Pur.ofInts))), some (.val (.int (x : Int))), x3, x4, none] s = r) :
    Pur.ex (cal n) mk 0 pT2 [x0, some (.val (.lst (F.map Pur.ofInts))), some (.val (.int (x : Int))), x3, x4, none] s = r := by
  simp only [pT2, Pur.ex, Pur.evIS, Pur.men, Pur.mens, Pur.evI, Pur.ev, Pur.evs, Pur.bnd_assoc, Pur.bnd_ret]
  simp [Pur.vw_A, Pur.vwA, Pur.vw1_v, Pur.ofO_ret, Pur.bnd_ret, Pur.seqD, Pur.isRng, Pur.frz_A, Pur.frzA, Pur.frz1_f, Pur.frz1_v, Pur.frz1_n]
  exact e
theorem x_pT3 {F G : List (List Int)} {x : Nat} {x0 x4 : Option Pur.Sl} : Pur.ex (cal n) mk 0 pT3 [x0, some (.val (.lst (F.map Pur.ofInts))), some (.val (.int (x : Int))), some (.own (G.map Pur.ofInts)), x4, none] s = .ok (.next [x0, some (.val (.lst (G.map Pur.ofInts))), some (.val (.int (x : Int))), some (.val (.lst (G.map Pur.ofInts))), x4, none]) s := by
  simp only [pT3, Pur.ex, Pur.evS, Pur.men, Pur.mens, Pur.ev, Pur.evs, Pur.bnd_assoc, Pur.bnd_ret]
  simp [Pur.vw_A, Pur.vwA, Pur.vw1_o, Pur.D.flat, Pur.frz_A, Pur.frzA, Pur.frz1_f, Pur.frz1_v, Pur.frz1_o, Pur.frz1_n, Pur.ofO_ret, Pur.bnd_ret, Pur.bindS, Pur.ret_E]
theorem x_pB2 {F : List (List Int)} {x d : Nat} {x0 x3 x4 : Option Pur.Sl} (hx : x ≤ 1000) (hF : F.length * (x + 1) ≤ 1000000) (hl : Len d F) (hd : d ≤ 1000) :
    ∃ x3' x4', Pur.exs (cal n) mk 0 pB2 [x0, some (.val (.lst (F.map Pur.ofInts))), some (.val (.int (x : Int))), x3, x4, none] s = .ok (.next [x0, some (.val (.lst ((ext1 F x).map Pur.ofInts))), some (.val (.int (x : Int))), x3', x4', none]) s := by
  obtain ⟨x4', e⟩ := x_pIn (n := n) (s := s) (x0 := x0) (x1 := some (.val (.lst (F.map Pur.ofInts)))) (x4 := x4) hx hF hl hd
  refine ⟨some (.val (.lst ((ext1 F x).map Pur.ofInts))), x4', ?_⟩
  rw [pB2_eq, Pur.exs_next x_pT1, Pur.exs_next (x_pT2 e), Pur.exs_next x_pT3, Pur.exs_nilE]
def pU : Pur.CSt := .for_ (.v 2) (.iVal (.var 0)) pB2
def pU0 : Pur.CSt := .asg (.v 1) (.lst [(.tup [])])
def pUR : Pur.CSt := .ret (.var 1)
theorem c_places_eq2 : c__law_places = [pU0, pU, pUR] := rfl
theorem x_pU0 {x0 : Option Pur.Sl} {d : Pur.D} (h : x0 = some (.val d)) : Pur.ex (cal n) mk 0 pU0 [x0, none, none, none, none, none] s = .ok (.next [x0, some (.val (.lst (([[]] : List (List Int)).map Pur.ofInts))), none, none, none, none]) s := by
  subst h
  rfl
theorem x_pUR {d e : Pur.D} {x2 x3 x4 x5 : Option Pur.Sl} : Pur.ex (cal n) mk 0 pUR [some (.val d), some (.val e), x2, x3, x4, x5] s = .ok (.ret e) s := by
  simp only [pUR, Pur.ex, Pur.evS, Pur.men, Pur.ev, Pur.bnd_assoc, Pur.bnd_ret]
  simp [Pur.vw_A, Pur.vwA, Pur.vw1_v, Pur.ofO_ret, Pur.bnd_ret, Pur.ret_E]
theorem ext_len {ts : List Nat} (h : ∀ x ∈ ts, x ≤ 6) : ∀ F : List (List Int), (ts.foldl ext1 F).length ≤ F.length * 7 ^ ts.length := by
  induction ts with
  | nil => intro F; simp
  | cons x ts ih =>
    intro F
    have h1 := ih (fun y hy => h y (List.mem_cons_of_mem _ hy)) (ext1 F x)
    rw [ext1_len] at h1
    have hx := h x (List.mem_cons_self ..)
    rw [List.foldl_cons, List.length_cons, Nat.pow_succ, Nat.mul_comm (7 ^ ts.length), ← Nat.mul_assoc]
    exact Nat.le_trans h1 (Nat.mul_le_mul_right _ (Nat.mul_le_mul_left _ (by omega)))
theorem ext_all {ts : List Nat} : ∀ {d : Nat} {F : List (List Int)}, Len d F → Len (d + ts.length) (ts.foldl ext1 F) := by
  induction ts with
  | nil => intro d F h; exact h
  | cons x ts ih =>
    intro d F h
    have : Len (d + 1) (ext1 F x) := fun w hw => by
      obtain ⟨p, hp, hw⟩ := List.mem_flatMap.mp hw
      obtain ⟨i, _, rfl⟩ := List.mem_map.mp hw
      simp [h p hp]
    have := ih this
    rw
        [List.foldl_cons, List.length_cons]
    rw [show d + (ts.length + 1) = d + 1 + ts.length by omega]
    exact this
theorem r_places {ts : List Nat} (h1 : ts.length ≤ 5) (hx : ∀ x ∈ ts, x ≤ 6) : cal (n + 1) "_law_places" [.tup (ts.map fun (x : Nat) => Pur.D.int (x : Int))] s = .ok (.lst ((placesOf ts).map Pur.ofInts)) s := by
  rw [un__law_places, c_places_eq2]
  refine Pur.runFn_ret ?_
  show Pur.exs _ _ _ _ [some (.val (.tup (ts.map fun (x : Nat) => Pur.D.int (x : Int)))), none, none, none, none, none] s = _
  rw [Pur.exs_next (x_pU0 rfl)]
  obtain ⟨δ', e, x2, x3, x4, rfl⟩ := Pur.forGo_fold (body := fun d δ' => Pur.bnd (Pur.ofO (Pur.bindS (.v 2) d δ')) fun δ'' => Pur.exs (cal n) mk 0 pB2 δ'') (fun x : Nat => Pur.D.int (x : Int)) ext1
    (fun F δ => ∃ x2 x3 x4, δ = [some (.val (.tup (ts.map fun (x : Nat) => Pur.D.int (x : Int)))), some (.val (.lst (F.map Pur.ofInts))), x2, x3, x4, none]) (s := s) (xs := ts) (b0 := [[]]) (δ := [some (.val (.tup (ts.map fun (x : Nat) => Pur.D.int (x : Int)))), some (.val (.lst (([[]] : List (List Int)).map Pur.ofInts))), none, none, none, none])
    ⟨none, none, none, rfl⟩ (by
      rintro pre x post e δ ⟨x2, x3, x4, rfl⟩
      have hpre : pre.length ≤ 4 := by
        have := congrArg List.length e
        rw [List.length_append, List.length_cons] at this
        omega
      have hm : ∀ y ∈ pre, y ≤ 6 := fun y hy => hx y (by rw [e]; exact List.mem_append_left _ hy)
      have hxx : x ≤ 6 := hx x (by rw [e]; simp)
      have hl := ext_len hm [[]]
      have hp : 7 ^ pre.length ≤ 7 ^ 4 := Nat.pow_le_pow_right (by omega) hpre
      have hlen : Len pre.length (pre.foldl ext1 [[]]) := by
        have := ext_all (ts := pre) (d := 0) (F := [[]]) (fun w hw => by rw [List.mem_singleton.mp hw]; rfl)
        rw [Nat.zero_add] at this
        exact this
      have hmul : (pre.foldl ext1 [[]]).length * (x + 1) ≤ 2401 * 7 := Nat.mul_le_mul (by simp only [List.length_singleton, Nat.one_mul] at hl; omega) (by omega)
      obtain ⟨b3, b4, eb⟩ := x_pB2 (n := n) (s := s) (F := pre.foldl ext1 [[]]) (x := x) (x0 := some (.val (.tup (ts.map fun (x : Nat) => Pur.D.int (x : Int))))) (x3 := x3) (x4 := x4) (by omega) (by omega) hlen (by omega)
      have hbind : Pur.bindS (.v 2) (.int (x : Int)) [some (.val (.tup (ts.map fun (x : Nat) => Pur.D.int (x : Int)))), some (.val (.lst ((pre.foldl ext1 [[]]).map Pur.ofInts))), x2, x3, x4, none] = some [some (.val (.tup (ts.map fun (x : Nat) => Pur.D.int (x : Int)))), some (.val (.lst ((pre.foldl ext1 [[]]).map Pur.ofInts))), some (.val (.int (x : Int))), x3, x4, none] := by
        simp [Pur.bindS]
      exact ⟨_, (congrArg (fun o => Pur.bnd (Pur.ofO o) (fun δ'' => Pur.exs (cal n) mk 0 pB2 δ'') s) hbind).trans (Pur.bnd_ofOE.trans eb), _, _, _, rfl⟩)
  have eU : Pur.ex (cal n) mk 0 pU [some (.val (.tup (ts.map fun (x : Nat) => Pur.D.int (x : Int)))), some (.val (.lst (([[]] : List (List Int)).map Pur.ofInts))), none, none, none, none] s = .ok (.next [some (.val (.tup (ts.map fun (x : Nat) => Pur.D.int (x : Int)))), some (.val (.lst ((ts.foldl ext1 [[]]).map Pur.ofInts))), x2, x3, x4, none]) s := by
    simp only [pU, Pur.ex, Pur.evIS, Pur.men, Pur.mens, Pur.evI, Pur.ev, Pur.evs, Pur.bnd_assoc, Pur.bnd_ret]
    simp [Pur.vw_A, Pur.vwA, Pur.vw1_v, Pur.ofO_ret, Pur.bnd_ret, Pur.seqD, Pur.isRng, Pur.frz_A, Pur.frzA, Pur.frz1_f, Pur.frz1_v, Pur.frz1_n]
    exact e
  rw [Pur.exs_next eU]
  exact Pur.exs_ret x_pUR
/-- all places below -/
theorem places_mem {ts : List Nat} : ∀ {F : List (List Int)} {x : List Int}, x ∈ ts.foldl ext1 F ↔ ∃ f ∈ F, ∃ r : List Int, x = f ++ r ∧ r.length = ts.length ∧ ∀ i, i < ts.length → 0 ≤ co r i ∧ co r i ≤ (ts.getD i 0 : Nat) := by
  induction ts with
  | nil =>
    intro F x
    simp only [List.foldl_nil, List.length_nil]
    constructor
    · exact fun h => ⟨x, h, [], by simp, rfl, fun i hi => absurd hi (by omega)⟩
    · rintro ⟨f, hf, r, rfl, hr, _⟩
      rw [List.length_eq_zero_iff.mp hr, List.append_nil]; exact hf
  | cons t ts ih =>
    intro F x
    rw [List.foldl_cons, ih]
    constructor
    · rintro ⟨g, hg, r, rfl, hr, h⟩
      obtain ⟨f, hf, hg⟩ := List.mem_flatMap.mp hg
      obtain ⟨i, hi, rfl⟩ := List.mem_map.mp hg
      have hi := List.mem_range.mp hi
      refine ⟨f, hf, (i : Int) :: r, by simp, by simp [hr], fun j hj => ?_⟩
      cases j with
      | zero => simp [co]; omega
      | succ j => simpa [co] using h j (by simpa using hj)
    · rintro ⟨f, hf, r, rfl, hr, h⟩
      cases r with
      | nil => simp at hr
      | cons a r =>
        have h0 := h 0 (by simp)
        simp [co] at h0
        obtain ⟨k, rfl⟩ := Int.eq_ofNat_of_zero_le h0.1
        refine ⟨f ++ [(k : Int)], List.mem_flatMap.mpr ⟨f, hf, List.mem_map.mpr ⟨k, List.mem_range.mpr (by omega), rfl⟩⟩, r, by simp, by simpa using hr, fun j hj => ?_⟩
        simpa [co] using h (j + 1) (by simpa using hj)
/-- the tops -/
def tp (ts : List Nat) : List Int := ts.map fun (x : Nat) => (x : Int)
theorem places_box {ts : List Nat} {x : List Int} : x ∈ placesOf ts ↔ Box (tp ts) x := by
  unfold placesOf
  rw [places_mem]
  have e : ∀ i, i < ts.length → co (tp ts) i = (ts.getD i 0 : Nat) := fun i hi => by
    unfold co tp
    rw [List.getD_eq_getElem?_getD, List.getD_eq_getElem?_getD, List.getElem?_map, List.getElem?_eq_getElem hi]
    rfl
  constructor
  · rintro ⟨f, hf, r, rfl, hr, h⟩
    rw [List.mem_singleton.mp hf, List.nil_append]
    exact ⟨by rw [hr]; simp [tp], fun i hi => by rw [e i (by simpa [tp] using hi)]; exact h i (by simpa [tp] using hi)⟩
  · rintro ⟨h1, h2⟩
    exact ⟨[], List.mem_singleton.mpr rfl, x, rfl, by rw [h1]; simp [tp], fun i hi => by rw [← e i hi]; exact h2 i (by simpa [tp] using hi)⟩
end Lw36

/-! the plain law: least and greatest ones, the dual by trying all places, and back -/
namespace Lw36
open
    PySem PySem.Spec PyProof.Rows L2
def uniq (P : List (List Int)) : List (List Int) := Pur.srtT (Pur.once P)
def lawG (P : List (List Int)) : List (List Int) := (uniq P).filter fun p => ((uniq P).filter fun o => !decide (o = p) && under p o).isEmpty
def lawL (P : List (List Int)) : List (List Int) := (uniq P).filter fun p => ((uniq P).filter fun o => !decide (o = p) && under o p).isEmpty
theorem uniq_mem {P : List (List Int)} {x : List Int} : x ∈ uniq P ↔ x ∈ P := by unfold uniq; rw [Pur.srtT_mem, Pur.once_memE]
theorem uniq_nd (P : List (List Int)) : (uniq P).Nodup := Pur.srtT_nodup.mpr (Pur.once_nodup P)
theorem uniq_srt (P : List (List Int)) : SrtO.Srtd Pur.lx (uniq P) := Pur.srtT_srt _
theorem lawG_mem {P : List (List Int)} {c : List Int} : c ∈ lawG P ↔ c ∈ P ∧ ∀ o ∈ P, under c o = true → o = c := by
  unfold lawG
  rw [List.mem_filter, uniq_mem, List.isEmpty_iff, List.filter_eq_nil_iff]
  refine and_congr_right fun _ => ⟨fun h o ho hu => ?_, fun h o ho => ?_⟩
  · have := h o (uniq_mem.mpr ho)
    simp only [hu, Bool.and_true, Bool.not_eq_true', decide_eq_false_iff_not, Classical.not_not] at this
    exact this
  · simp only [Bool.and_eq_true, Bool.not_eq_true', decide_eq_false_iff_not, not_and]
    exact fun ne hu => ne (h o (uniq_mem.mp ho) hu)
theorem lawL_mem {P : List (List Int)} {c : List Int} : c ∈ lawL P ↔ c ∈ P ∧ ∀ o ∈ P, under o c = true → o = c := by
  unfold lawL
  rw [List.mem_filter, uniq_mem, List.isEmpty_iff, List.filter_eq_nil_iff]
  refine and_congr_right fun _ => ⟨fun h o ho hu => ?_, fun h o ho => ?_⟩
  · have := h o (uniq_mem.mpr ho)
    simp only [hu, Bool.and_true, Bool.not_eq_true', decide_eq_false_iff_not, Classical.not_not] at this
    exact this
  · simp only [Bool.and_eq_true, Bool.not_eq_true', decide_eq_false_iff_not, not_and]
    exact fun ne hu => ne (h o (uniq_mem.mp ho) hu)
theorem lawG_srt (P : List (List Int)) : SrtO.Srtd Pur.lx (lawG P) := (uniq_srt P).filter _
theorem lawL_srt (P : List (List Int)) : SrtO.Srtd Pur.lx (lawL P) := (uniq_srt P).filter _
theorem lawG_nd (P : List (List Int)) : (lawG P).Nodup := (uniq_nd P).filter _
theorem lawL_nd (P : List (List Int)) : (lawL P).Nodup := (uniq_nd P).filter _
theorem srt_same {l m : List (List Int)} (h1 : SrtO.Srtd Pur.lx l) (h2 : SrtO.Srtd Pur.lx m) (n1 : l.Nodup) (n2 : m.Nodup) (h : ∀ x, x ∈ l ↔ x ∈ m) : l = m := Pur.srt_uniq h1 h2 (Pur.perm_of_mem n1 n2 h)
theorem gGo_sub : ∀ (l F : List (List Int)), (l.foldl gGo F).Sublist (F ++ l)
  | [], F => by simp
  | x :: l, F => by
    have h : (gGo F x).Sublist (F ++ [x]) := by
      unfold gGo
      split
      · exact List.sublist_append_left F [x]
      · exact List.Sublist.refl _
    have := (gGo_sub l (gGo F x)).trans (h.append_right l)
    simpa using this
theorem lGo_sub : ∀ (l F : List (List Int)), (l.foldl lGo F).Sublist (F ++ l)
  | [], F => by simp
  | x :: l, F => by
    have h : (lGo F x).Sublist (F ++ [x]) := by
      unfold lGo
      split
      · exact List.sublist_append_left F [x]
      · exact List.Sublist.refl _
    have := (lGo_sub l (lGo F x)).trans (h.append_right l)
    simpa using this
theorem greatest_srt (L : List (List Int)) : SrtO.Srtd Pur.lx (greatestOf L) := by
  have h := (gGo_sub (Pur.srtT (Pur.once L)).reverse []).reverse
  rw [List.nil_append, List.reverse_reverse] at h
  exact List.Pairwise.sublist h (uniq_srt L)
theorem least_srt (L : List (List Int)) : SrtO.Srtd Pur.lx (leastOf L) := List.Pairwise.sublist (lGo_sub (Pur.srtT (Pur.once L)) []) (uniq_srt L)
theorem least_nd (L : List (List Int)) : (leastOf L).Nodup := List.Sublist.nodup (lGo_sub (Pur.srtT (Pur.once L)) []) (uniq_nd L)
theorem least_sub {L : List (List Int)} {x : List Int} (h : x ∈ leastOf L) : x ∈ L := uniq_mem.mp ((lGo_sub (Pur.srtT (Pur.once L)) []).mem h)
/-- the smallest first -/
theorem lGo_inv {d : Nat} : ∀ (post pre F : List (List Int)), Len d (pre ++ post) → (pre ++ post).Nodup → ((pre ++ post).Pairwise fun a b => under b a = false) → (∀ f ∈ F, f ∈ pre) → (∀ o ∈ pre, ∃ f ∈ F, under f o = true) → (∀ a ∈ F, ∀ b ∈ F, under a b = true → a = b) →
    (∀ o ∈ pre ++ post, ∃ f ∈ post.foldl lGo F, under f o = true) ∧ (∀ a ∈ post.foldl lGo F, ∀ b ∈ post.foldl lGo F, under a b = true → a = b)
  | [], pre, F, _, _, _, _, h2, h3 => by simpa using ⟨h2, h3⟩
  | x :: post, pre, F, hl, hn, hp, h1, h2, h3 => by
    have e : pre ++ x :: post = (pre ++ [x]) ++ post := by simp
    rw [e] at hl hn hp ⊢
    rw [List.foldl_cons]
    have hno : ∀ a ∈ pre, under x a = false := fun a ha => by
      have := hp
      rw [List.append_assoc, List.pairwise_append] at this
      exact this.2.2 a ha x (by simp)
    unfold lGo
    by_cases c : F.any (fun o => under o x) = true
    · rw [if_pos c]
      obtain ⟨f0, hf0, hu⟩ := List.any_eq_true.mp c
      exact lGo_inv post (pre ++ [x]) F hl hn hp (fun f hf => List.mem_append_left _ (h1 f hf)) (fun o ho => by
        rcases List.mem_append.mp ho with ho | ho
        · exact h2 o ho
        · rw [List.mem_singleton.mp ho]; exact ⟨f0, hf0, hu⟩) h3
    · rw [if_neg c]
      have c' : ∀ f ∈ F, under f x = false := fun f hf => by
        cases h : under f x with
        | false => rfl
        | true => exact absurd (List.any_eq_true.mpr ⟨f, hf, h⟩) c
      refine lGo_inv post (pre ++ [x]) (F ++ [x]) hl hn hp (fun f hf => ?_) (fun o ho => ?_) (fun a ha b hb hu => ?_)
      · rcases List.mem_append.mp hf with hf | hf
        · exact List.mem_append_left _ (h1 f hf)
        · exact List.mem_append_right _ hf
      · rcases List.mem_append.mp ho with ho | ho
        · obtain ⟨f, hf, hu⟩ := h2 o ho
          exact ⟨f, List.mem_append_left _ hf, hu⟩
        · rw [List.mem_singleton.mp ho]
          exact ⟨x, by simp, under_refl x⟩
      · rcases List.mem_append.mp ha with ha | ha <;> rcases List.mem_append.mp hb with hb | hb
        · exact h3 a ha b hb hu
        · rw [List.mem_singleton.mp hb] at hu
          rw [c' a ha] at hu; cases hu
        · rw [List.mem_singleton.mp ha] at hu
          rw [hno b (h1 b hb)] at hu; cases hu
        · rw [List.mem_singleton.mp ha, List.mem_singleton.mp hb]
theorem least_spec {d : Nat} {L : List (List Int)} (hl : Len d L) (c : List Int) : c ∈ leastOf L ↔ c ∈ L ∧ ∀ o ∈ L, under o c = true → o = c := by
  have hlu : Len d (uniq L) := fun w hw => hl w (uniq_mem.mp hw)
  have asc : (uniq L).Pairwise fun a b => under b a = false := by
    have := (desc_of hl).no
    rwa [List.pairwise_reverse] at this
  obtain ⟨g2, g3⟩ := lGo_inv (d := d) (uniq L) [] [] hlu (uniq_nd L) asc (by simp) (by simp) (by simp)
  rw [List.nil_append] at g2
  constructor
  · intro hc
    refine ⟨least_sub hc, fun o ho hu => ?_⟩
    obtain ⟨f, hf, hu2⟩ := g2 o (uniq_mem.mpr ho)
    have lc := hl c (least_sub hc)
    have lo := hl o ho
    have lf := hl f (least_sub hf)
    have e := g3 f hf c hc (under_trans (lf.trans lo.symm) (lo.trans lc.symm) hu2 hu)
    subst e
    exact under_antisymm (lo.trans lf.symm) hu hu2
  · rintro ⟨hc, hmin⟩
    obtain ⟨f, hf, hu⟩ := g2 c (uniq_mem.mpr hc)
    have e := hmin f (least_sub hf) hu
    rw [← e]; exact hf
theorem least_eq {d : Nat} {L : List (List Int)} (hl : Len d L) : leastOf L = lawL L := srt_same (least_srt L) (lawL_srt L) (least_nd L) (lawL_nd L) fun x => by rw [least_spec hl, lawL_mem]
theorem greatest_eq {d : Nat} {L : List (List Int)} (hl : Len d L) : greatestOf L = lawG L := srt_same (greatest_srt L) (lawG_srt L) (greatest_spec hl).1 (lawG_nd L) fun x => by rw [(greatest_spec hl).2, lawG_mem]
theorem least_rev (L : List (List Int)) : leastOf L.reverse = leastOf L := by
  unfold leastOf
  rw [Pur.srtT_perm_eq (Pur.perm_of_mem (Pur.once_nodup L.reverse) (Pur.once_nodup L) fun x => by rw [Pur.once_memE, Pur.once_memE, List.mem_reverse])]

section
variable {t : List Int} {A S W : List (List Int)} (hA : ∀ x, x ∈ A ↔ Box t x) (hS : ∀ p ∈ S, Box t p)
include hA
/-- what is above none -/
def downs (A S : List (List Int)) : List (List Int) := A.filter fun x => (S.filter fun o => under o x).isEmpty
theorem downs_mem {x : List Int} : x ∈ downs A S ↔ Dn t S x := by
  unfold downs
  rw [List.mem_filter, hA, List.isEmpty_iff, List.filter_eq_nil_iff]
  refine and_congr_right fun _ => ⟨fun h p hp => ?_, fun h p hp => ?_⟩
  · simpa using h p hp
  · simp [h p hp]
theorem walls_eq (h : Walls t S W) : Pur.srtT W = lawG (downs A S) := by
  refine srt_same (Pur.srtT_srt W) (lawG_srt _) (Pur.srtT_nodup.mpr h.nd) (lawG_nd _) fun x => ?_
  rw [Pur.srtT_mem, h.mem, lawG_mem, downs_mem hA]
  exact and_congr_right fun _ => ⟨fun k o ho => k o ((downs_mem hA).mp ho), fun k o ho => k o ((downs_mem hA).mpr ho)⟩
theorem walls_few (h : Walls t S W) : W.length ≤ A.length := Pur.nodup_sub_len h.nd fun x hx => (hA x).mpr ((h.mem x).mp hx).1.1
include hS
theorem dual_all (h0 : ∀ i, i < t.length → 0 ≤ co t i) (hz : A.length ≤ 2000) : ∃ W, dualGo [t] S = some W ∧ Pur.srtT W = lawG (downs A S) := by
  have hl : Len t.length S := fun p hp => (hS p hp).1
  obtain ⟨W, e⟩ := dualGo_some (t := t) (S := []) (ps := S) (W := [t]) (fun _ h => by cases h) hl (walls_nil h0) fun pre post V _ hV => Nat.le_trans (walls_few hA hV) hz
  have hW := dualGo_walls (S := []) (fun _ h => by cases h) hl (walls_nil h0) e
  exact ⟨W, e, walls_eq hA hW⟩
omit hA in
theorem dn_least {x : List Int} : Dn t (leastOf S) x ↔ Dn t S x := by
  have hl : Len t.length S := fun p hp => (hS p hp).1
  refine and_congr_right fun hb => ⟨fun h p hp => ?_, fun h p hp => h p (least_sub hp)⟩
  have hlu : Len t.length (uniq S) := fun w hw => hl w (uniq_mem.mp hw)
  have asc : (uniq S).Pairwise fun a b => under b a = false := by
    have := (desc_of hl).no
    rwa [List.pairwise_reverse] at this
  obtain ⟨g2, _⟩ := lGo_inv (d := t.length) (uniq S) [] [] hlu (uniq_nd S) asc (by simp) (by simp) (by simp)
  obtain ⟨f, hf, hu⟩ := g2 p (uniq_mem.mpr hp)
  cases c : under p x with
  | false => rfl
  | true =>
    have := under_trans ((hl f (least_sub hf)).trans (hl p hp).symm) ((hl p hp).trans hb.1.symm) hu c
    rw [h f hf] at this; cases this
theorem downs_least : downs A (leastOf S) = downs A S := by
  unfold downs
  refine List.filter_congr fun x hx => ?_
  have hb := (hA x).mp hx
  have h := dn_least hS (x := x)
  rw [Bool.eq_iff_iff, List.isEmpty_iff, List.isEmpty_iff, List.filter_eq_nil_iff, List.filter_eq_nil_iff]
  have e : ∀ T : List (List Int), (∀ o ∈ T, ¬ under o x = true) ↔ Dn t T x := fun T => ⟨fun h => ⟨hb, fun p hp => by simpa using h p hp⟩, fun h p hp => by simp [h.2 p hp]⟩
  rw [e, e]; exact h
/-- back -/
theorem back (hW : ∀ x, x ∈ W ↔ Mx t S x) : lawL (A.filter fun x => (W.filter fun w => under x w).isEmpty) = lawL S := by
  have key : ∀ x, x ∈ (A.filter fun x => (W.filter fun w => under x w).isEmpty) ↔ Box t x ∧ ∃ p ∈ S, under p x = true := fun x => by
    rw [List.mem_filter, hA, List.isEmpty_iff, List.filter_eq_nil_iff]
    refine and_congr_right fun hb => ⟨fun h => ?_, ?_⟩
    · refine Classical.byContradiction fun c => ?_
      have hd : Dn t S x := ⟨hb, fun p hp => by
        cases e : under p x with
        | false => rfl
        | true => exact absurd ⟨p, hp, e⟩ c⟩
      obtain ⟨m, hm, hu⟩ := above _ x (Nat.le_refl _) hd
      exact h m ((hW m).mpr hm) hu
    · rintro ⟨p, hp, hu⟩ w hw hxw
      have hm := (hW w).mp hw
      have := under_trans ((hS p hp).1.trans hb.1.symm) (hb.1.trans hm.len.symm) hu hxw
      rw [hm.1.2 p hp] at this; cases this
  refine srt_same (lawL_srt _) (lawL_srt _) (lawL_nd _) (lawL_nd _) fun c => ?_
  rw [lawL_mem, lawL_mem, key]
  constructor
  · rintro ⟨⟨hb, p, hp, hu⟩, hmin⟩
    have e := hmin p ((key p).mpr ⟨hS p hp, p, hp, under_refl p⟩) hu
    subst e
    exact ⟨hp, fun o ho hou => hmin o ((key o).mpr ⟨hS o ho, o, ho, under_refl o⟩) hou⟩
  · rintro ⟨hc, hmin⟩
    refine ⟨⟨hS c hc, c, hc, under_refl c⟩, fun o ho hou => ?_⟩
    obtain ⟨hb, p, hp, hu⟩ := (key o).mp ho
    have e := hmin p hp (under_trans ((hS p hp).1.trans hb.1.symm) (hb.1.trans (hS c hc).1.symm) hu hou)
    subst e
    exact (under_antisymm ((hS p hp).1.trans hb.1.symm) hu hou).symm
end
end Lw36

/-! the law's own least and greatest ones, run -/
namespace Lw36
open
    PySem PySem.Spec PyProof.Rows L2
variable {n : Nat} {s : Pur.Pn}
theorem under_out (a b : List Int) : decide (((a.zip b).filter fun q => decide (q.2 < q.1)).map (fun _ => (1 : Int)) = []) = under a b := by
  unfold under
  rw [Bool.eq_iff_iff, decide_eq_true_eq, List.map_eq_nil_iff, List.filter_eq_nil_iff, List.all_eq_true]
  refine forall_congr' fun q => imp_congr_right fun _ => ?_
  simp
theorem r_law_under {a b : List Int} : cal (n + 1) "_law_under" [Pur.ofInts a, Pur.ofInts b] s = .ok (.bl (under a b)) s := by
  rw [un__law_under]
  refine Pur.runFn_ret ?_
  show Pur.exs _ _ _ c__law_under [some (.val (Pur.ofInts a)), some (.val (Pur.ofInts b)), none, none] s = _
  refine Pur.exs_ret (Pur.qs_ret ?_ (Pur.frz_self rfl))
  rw [← under_out]
  refine Pur.qe_cmp (Pur.qe_lcT (enc := fun q : Int × Int => .tup [.int q.1, .int q.2]) (xs := a.zip b) (f := fun q => decide (q.2 < q.1)) (g := fun _ => .int 1) (ρ' := fun q => [some (Pur.ofInts a), some (Pur.ofInts b), some (.int q.1), some (.int q.2)]) (s1 := s) ?_ (fun q _ => rfl) (fun q _ => ?_) fun q _ _ => Pur.qe_const) (Pur.qe_lst Pur.qe_nil) ?_
  · rw [← Pur.zip_ints]
    exact Pur.qe_zip (Pur.qe_var (d := Pur.ofInts a) rfl) (Pur.qe_var (d := Pur.ofInts b) rfl) rfl rfl
  · exact Pur.qt_one (Pur.qe_cmp (Pur.qe_var rfl) (Pur.qe_var rfl) rfl) rfl
  · have e : ((a.zip b).filter fun q => decide (q.2 < q.1)).map (fun _ => Pur.D.int 1) = (((a.zip b).filter fun q => decide (q.2 < q.1)).map fun _ => (1 : Int)).map Pur.D.int := by rw [List.map_map]; rfl
    rw [e]
    exact Pur.eq_lstNil _
theorem srtSet_places {P : List (List Int)} (h : ∀ l ∈ P, l ≠ []) (hl : P.length ≤ 300) : Pur.srtSetD (.lst (P.map Pur.ofInts)) = some (.lst ((uniq P).map Pur.ofInts)) := by
  show (Pur.tupsInts (P.map Pur.ofInts)).bind _ = _
  rw [Pur.tupsInts_of h]
  show (if P.length ≤ 300 then _ else none) = _
  rw [if_pos hl]
  rfl
theorem nil_places (L : List (List Int)) : Pur.cmpD .Eq (.lst (L.map Pur.ofInts)) (.lst []) = some L.isEmpty := by
  have := Pur.eq_lstP L []
  rw [List.map_nil] at this
  show Pur.eqD _ _ = _
  rw [this]
  cases L <;> rfl
theorem r_law_least {P : List (List Int)} (h : ∀ l ∈ P, l ≠ []) (hl : P.length ≤ 300) : cal (n + 2) "_law_least_places" [.lst (P.map Pur.ofInts)] s = .ok (.lst ((lawL P).map Pur.ofInts)) s := by
  rw [un__law_least_places]
  refine Pur.runFn_ret ?_
  show Pur.exs _ _ _ c__law_least_places [some (.val (.lst (P.map Pur.ofInts))), none, none, none] s = _
  have a1 : Pur.ex (cal (n + 1)) mk 0 (.asg (.v 1) (.srtSet (.var 0))) [some (.val (.lst (P.map Pur.ofInts))), none, none, none] s = .ok (.next [some (.val (.lst (P.map Pur.ofInts))), some (.val (.lst ((uniq P).map Pur.ofInts))), none, none]) s :=
    Pur.qs_asg (Pur.qe_srtSet (Pur.qe_var (d := .lst (P.map Pur.ofInts)) rfl) (srtSet_places h hl)) (Pur.frz_self rfl) rfl
  rw [c__law_least_places, Pur.exs_next a1]
  refine Pur.exs_ret (Pur.qs_ret ?_ (Pur.frz_self rfl))
  refine Pur.qe_lcF (enc := Pur.ofInts) (xs := uniq P) (f := fun p => ((uniq P).filter fun o => !decide (o = p) && under o p).isEmpty) (g := Pur.ofInts) (Pur.qe_val (Pur.qe_var (d := .lst ((uniq P).map Pur.ofInts)) rfl) rfl) (by show 2 < 4; decide) (fun p _ => ?_) fun p _ _ => Pur.qe_var rfl
  refine Pur.qt_one (Pur.qe_cmp (Pur.qe_lcF (enc := Pur.ofInts) (xs := uniq P) (f := fun o => !decide (o = p) && under o p) (g := Pur.ofInts) (Pur.qe_val (Pur.qe_var (d := .lst ((uniq P).map Pur.ofInts)) rfl) rfl) (by show 3 < 4; decide) (fun o _ => ?_) fun o _ _ => Pur.qe_var rfl) (Pur.qe_lst Pur.qe_nil) (nil_places _)) rfl
  cases c : decide (o = p) with
  | true => exact Pur.qt_one (Pur.qe_andF (Pur.qe_cmp (k := false) (Pur.qe_var (d := Pur.ofInts o) rfl) (Pur.qe_var (d := Pur.ofInts p) rfl) ((Pur.ne_ofInts o p).trans (by rw [c]; rfl))) rfl) rfl
  | false => exact Pur.qt_one (Pur.qe_andT (Pur.qe_cmp (k := true) (Pur.qe_var (d := Pur.ofInts o) rfl) (Pur.qe_var (d := Pur.ofInts p) rfl) ((Pur.ne_ofInts o p).trans (by rw [c]; rfl))) rfl (Pur.qe_call (Pur.qe_two (Pur.qe_var (d := Pur.ofInts o) rfl) (Pur.qe_var (d := Pur.ofInts p) rfl)) r_law_under)) rfl
theorem r_law_greatest {P : List (List Int)} (h : ∀ l ∈ P, l ≠ []) (hl : P.length ≤ 300) : cal (n + 2) "_law_greatest_places" [.lst (P.map Pur.ofInts)] s = .ok (.lst ((lawG P).map Pur.ofInts)) s := by
  rw [un__law_greatest_places]
  refine Pur.runFn_ret ?_
  show Pur.exs _ _ _ c__law_greatest_places [some (.val (.lst (P.map Pur.ofInts))), none, none, none] s = _
  have a1 : Pur.ex (cal (n + 1)) mk 0 (.asg (.v 1) (.srtSet (.var 0))) [some (.val (.lst (P.map Pur.ofInts))), none, none, none] s = .ok (.next [some (.val (.lst (P.map Pur.ofInts))), some (.val (.lst ((uniq P).map Pur.ofInts))), none, none]) s :=
    Pur.qs_asg (Pur.qe_srtSet (Pur.qe_var (d := .lst (P.map Pur.ofInts)) rfl) (srtSet_places h hl)) (Pur.frz_self rfl) rfl
  rw [c__law_greatest_places, Pur.exs_next a1]
  refine Pur.exs_ret (Pur.qs_ret ?_ (Pur.frz_self rfl))
  refine Pur.qe_lcF (enc := Pur.ofInts) (xs := uniq P) (f := fun p => ((uniq P).filter fun o => !decide (o = p) && under p o).isEmpty) (g := Pur.ofInts) (Pur.qe_val (Pur.qe_var (d := .lst ((uniq P).map Pur.ofInts)) rfl) rfl) (by show 2 < 4; decide) (fun p _ => ?_) fun p _ _ => Pur.qe_var rfl
  refine Pur.qt_one (Pur.qe_cmp (Pur.qe_lcF (enc := Pur.ofInts) (xs := uniq P) (f := fun o => !decide (o = p) && under p o) (g := Pur.ofInts) (Pur.qe_val (Pur.qe_var (d := .lst ((uniq P).map Pur.ofInts)) rfl) rfl) (by show 3 < 4; decide) (fun o _ => ?_) fun o _ _ => Pur.qe_var rfl) (Pur.qe_lst Pur.qe_nil) (nil_places _)) rfl
  cases c : decide (o = p) with
  | true => exact Pur.qt_one (Pur.qe_andF (Pur.qe_cmp (k := false) (Pur.qe_var (d := Pur.ofInts o) rfl) (Pur.qe_var (d := Pur.ofInts p) rfl) ((Pur.ne_ofInts o p).trans (by rw [c]; rfl))) rfl) rfl
  | false => exact Pur.qt_one (Pur.qe_andT (Pur.qe_cmp (k := true) (Pur.qe_var (d := Pur.ofInts o) rfl) (Pur.qe_var (d := Pur.ofInts p) rfl) ((Pur.ne_ofInts o p).trans (by rw [c]; rfl))) rfl (Pur.qe_call (Pur.qe_two (Pur.qe_var (d := Pur.ofInts p) rfl) (Pur.qe_var (d := Pur.ofInts o) rfl)) r_law_under)) rfl
end Lw36

/-! lists for tuples; what is refused -/
namespace Lw36
open
    PySem PySem.Spec PyProof.Rows L2
variable {n : Nat} {s : Pur.Pn}
abbrev lsI (p : List Int) : Pur.D := .lst (p.map Pur.D.int)
/-- tops, as a list or a tuple -/
theorem r_topsG {t : List Int} (h : Tops t) {d : Pur.D} (hd : d = Pur.ofInts t ∨ d = lsI t) : cal (n + 3) "need_tops" [d] s = .ok (Pur.ofInts t) s := by
  rcases hd with rfl | rfl
  · exact r_need_tops h
  rw [un_need_tops]
  refine Pur.runFn_ret ?_
  show Pur.exs _ _ _ c_need_tops [some (.val (lsI t)), none] s = _
  have h1 : (1 : Int) ≤ (t.length : Int) := by have := h.lo; omega
  have h2 : (t.length : Int) ≤ 12 := by have := h.hi; omega
  have el : Pur.biD .len [lsI t] = some (.int (t.length : Int)) := by rw [Pur.len_lst, List.length_map]
  rw [c_need_tops]
  rw [Pur.exs_next (s' := s) (δ' := [some (.val (lsI t)), none]) (Pur.qs_iteF (d := .bl false) (Pur.qe_orF (x := .bl false) (s1 := s) (Pur.qe_not (k := true) (Pur.qe_call (Pur.qe_one (Pur.qe_var (d := lsI t) rfl)) r_listedL) rfl) rfl
    (Pur.qe_not (k := true) (Pur.qe_chT Pur.qe_const (Pur.qe_bi (Pur.qe_one (Pur.qe_var (d := lsI t) rfl)) el) (by show some (decide ((1 : Int) ≤ (t.length : Int))) = _; rw [decide_eq_true h1]) Pur.qe_const (k := true) (by show some (decide ((t.length : Int) ≤ 12)) = _; rw [decide_eq_true h2])) rfl)) rfl)]
  have e : t.all (fun i => decide (1 ≤ i) && decide (i ≤ 20)) = true := List.all_eq_true.mpr fun i hi => by
    obtain ⟨a, b⟩ := h.in_ i hi
    simp [a, b]
  rw [Pur.exs_next (s' := s) (δ' := [some (.val (lsI t)), none]) (Pur.qs_iteF (d := .bl false) (Pur.qe_not (k := true) (Pur.qe_bi (Pur.qe_one (Pur.qe_lcM (enc := Pur.D.int) (xs := t) (g := fun i => .bl (decide (1 ≤ i) && decide (i ≤ 20))) (Pur.qe_val (Pur.qe_var (d := lsI t) rfl) rfl) (by show 1 < 2; decide) fun i _ => Pur.qe_call (Pur.qe_cons (Pur.qe_var (d := .int i) rfl) (Pur.qe_two Pur.qe_const Pur.qe_const)) r_is_within)) ((Pur.all_map _ t).trans (by rw [e]))) rfl) rfl)]
  exact Pur.exs_ret (Pur.qs_ret (Pur.qe_bi (Pur.qe_one (Pur.qe_var (d := lsI t) rfl)) rfl) (Pur.frz_self rfl))
theorem r_tuple_ofL {xs : List Pur.D} {k : Int} : cal (n + 2) "is_tuple_of" [.lst xs, .int k] s = .ok (.bl (decide ((xs.length : Int) = k))) s := by
  rw [un_is_tuple_of]
  refine Pur.runFn_ret ?_
  show Pur.exs _ _ _ c_is_tuple_of [some (.val (.lst xs)), some (.val (.int k))] s = _
  exact Pur.exs_ret (Pur.qs_ret (Pur.qe_andT (Pur.qe_call (Pur.qe_one (Pur.qe_var (d := .lst xs) rfl)) r_listedL) rfl (Pur.qe_cmp (Pur.qe_bi (Pur.qe_one (Pur.qe_var (d := .lst xs) rfl)) (Pur.len_lst xs)) (Pur.qe_var (d := .int k) rfl) (Pur.eq_int _ _))) (Pur.frz_self rfl))
/-- a place as a list or a tuple -/
theorem r_placeG {t p : List Int} {d : Pur.D} (hd : d = Pur.ofInts p ∨ d = lsI p) : cal (n + 3) "is_place" [Pur.ofInts t, d] s = .ok (.bl (isPlace t p)) s := by
  rcases hd with rfl | rfl
  · exact r_is_place
  rw [un_is_place]
  refine Pur.runFn_ret ?_
  show Pur.exs _ _ _ c_is_place [some (.val (Pur.ofInts t)), some (.val (lsI p)), none, none] s = _
  refine Pur.exs_ret (Pur.qs_ret ?_ (Pur.frz_self rfl))
  have el : Pur.biD .len [Pur.ofInts t] = some (.int (t.length : Int)) := by unfold Pur.ofInts; rw [Pur.len_tup, List.length_map]
  have ec : Pur.ev (cal (n + 2)) (.call "is_tuple_of" [(.var 1), (.bi .len [(.var 0)])]) (Pur.vw (Pur.men (.and (.call "is_tuple_of" [(.var 1), (.bi .len [(.var 0)])]) (.bi .all [(.lc [2, 3] (.t [(.v 2), (.v 3)]) (.iZip (.var 1) (.var 0)) [] (.call "is_within" [(.var 2), (.const (.int 0)), (.var 3)]))]))) [some (.val (Pur.ofInts t)), some (.val (lsI p)), none, none]) s = .ok (.bl (decide (p.length = t.length))) s := by
    refine (Pur.qe_call (Pur.qe_two (Pur.qe_var (d := lsI p) rfl) (Pur.qe_bi (Pur.qe_one (Pur.qe_var (d := Pur.ofInts t) rfl)) el)) r_tuple_ofL).trans ?_
    rw [List.length_map]
    have : decide ((p.length : Int) = (t.length : Int)) = decide (p.length = t.length) := decide_eq_decide.mpr (by omega)
    rw [this]
  unfold isPlace
  by_cases h : p.length = t.length
  · rw [decide_eq_true h] at ec ⊢
    rw [Bool.true_and]
    refine Pur.qe_andT ec rfl (Pur.qe_bi (Pur.qe_one (Pur.qe_lcT (enc := fun q : Int × Int => .tup [.int q.1, .int q.2]) (xs := p.zip t) (f := fun _ => true) (g := fun q => .bl (decide (0 ≤ q.1) && decide (q.1 ≤ q.2))) (ρ' := fun q => [some (Pur.ofInts t), some (lsI p), some (.int q.1), some (.int q.2)]) (s1 := s) ?_ (fun q _ => rfl) (fun q _ => Pur.qt_nil) fun q _ _ => Pur.qe_call (Pur.qe_cons (Pur.qe_var (d := .int q.1) rfl) (Pur.qe_two Pur.qe_const (Pur.qe_var (d := .int q.2) rfl))) r_is_within)) ?_)
    · rw [← Pur.zip_ints]
      exact Pur.qe_zip (Pur.qe_var (d := lsI p) rfl) (Pur.qe_var (d := Pur.ofInts t) rfl) rfl rfl
    · rw [List.filter_eq_self.mpr fun _ _ => rfl]
      exact Pur.all_map (fun q : Int × Int => decide (0 ≤ q.1) && decide (q.1 ≤ q.2)) (p.zip t)
  · rw [decide_eq_false h] at ec ⊢
    exact Pur.qe_andF ec rfl
/-- places, listed anyhow -/
theorem r_placesG {t : List Int} {L : List (List Int)} (h : ∀ p ∈ L, isPlace t p = true) {enc : List Int → Pur.D} (he : ∀ p, enc p = Pur.ofInts p ∨ enc p = lsI p) {d : Pur.D} (hd : d = .lst (L.map enc) ∨ d = .tup (L.map enc)) :
    cal (n + 4) "need_places" [Pur.ofInts t, d] s = .ok (.lst (L.map Pur.ofInts)) s := by
  have sq : Pur.seqD d = some (L.map enc) := by rcases hd with rfl | rfl <;> rfl
  have ls : cal (n + 3) "is_listed" [d] s = .ok (.bl true) s := by
    rcases hd with rfl | rfl
    · exact r_listedL
    · exact r_listedT
  have tl : ∀ p, Pur.biD .tuple [enc p] = some (Pur.ofInts p) := fun p => by rcases he p with e | e <;> rw [e] <;> rfl
  rw [un_need_places]
  refine Pur.runFn_ret ?_
  show Pur.exs _ _ _ c_need_places [some (.val (Pur.ofInts t)), some (.val d), none] s = _
  have ea : L.all (fun p => isPlace t p) = true := List.all_eq_true.mpr h
  rw [c_need_places, Pur.exs_next (s' := s) (δ' := [some (.val (Pur.ofInts t)), some (.val d), none]) (Pur.qs_iteF (d := .bl false) (Pur.qe_orF (x := .bl false) (s1 := s) (Pur.qe_not (k := true) (Pur.qe_call (Pur.qe_one (Pur.qe_var (d := d) rfl)) ls) rfl) rfl
    (Pur.qe_not (k := true) (Pur.qe_bi (Pur.qe_one (Pur.qe_lcM (enc := enc) (xs := L) (g := fun p => .bl (isPlace t p)) (Pur.qe_val (Pur.qe_var (d := d) rfl) sq) (by show 2 < 3; decide) fun p _ => Pur.qe_call (Pur.qe_two (Pur.qe_var (d := Pur.ofInts t) rfl) (Pur.qe_var (d := enc p) rfl)) (r_placeG (he p)))) ((Pur.all_map _ L).trans (by rw [ea]))) rfl)) rfl)]
  exact Pur.exs_ret (Pur.qs_ret (Pur.qe_lcM (enc := enc) (xs := L) (g := Pur.ofInts) (Pur.qe_val (Pur.qe_var (d := d) rfl) sq) (by show 2 < 3; decide) fun p _ => Pur.qe_bi (Pur.qe_one (Pur.qe_var (d := enc p) rfl)) (tl p)) (Pur.frz_self rfl))
section
variable {t : List Int} {dt dp : Pur.D} {ps : List (List Int)}
theorem r_dualG (h : Tops t) (h1 : ∀ m, cal (m + 3) "need_tops" [dt] s = .ok (Pur.ofInts t) s) (h2 : cal (n + 4) "need_places" [Pur.ofInts t, dp] s = .ok (.lst (ps.map Pur.ofInts)) s) (hl : Len t.length ps) {W : List (List Int)} (e : dualGo [t] ps = some W) :
    cal (n + 5) "dual" [dt, dp] s = .ok (.tup ((Pur.srtT W).map Pur.ofInts)) s := by
  rw [un_dual]
  refine Pur.runFn_ret ?_
  show Pur.exs _ _ _ c_dual [some (.val dt), some (.val dp), none] s = _
  rw [c_dual, Pur.exs_next (s' := s) (δ' := [some (.val dt), some (.val dp), some (.val (Pur.ofInts t))]) (Pur.qs_asg (Pur.qe_call (Pur.qe_one (Pur.qe_var (d := dt) rfl)) (h1 (n + 1))) (Pur.frz_self rfl) rfl)]
  exact Pur.exs_ret (Pur.qs_ret (Pur.qe_call (Pur.qe_two (Pur.qe_var (d := Pur.ofInts t) rfl) (Pur.qe_call (Pur.qe_two (Pur.qe_var (d := Pur.ofInts t) rfl) (Pur.qe_var (d := dp) rfl)) h2)) ((r_dual_of (n := n) (s := s) h.hi h.lo h.nn hl).1 W e)) (Pur.frz_self rfl))
theorem ne_of_len (h : Tops t) (hl : Len t.length ps) : ∀ l ∈ ps, l ≠ [] := fun l hm z => by
  have := hl l hm
  rw [z] at this
  have := h.lo
  simp at *
  omega
theorem r_leastG (h : Tops t) (h1 : ∀ m, cal (m + 3) "need_tops" [dt] s = .ok (Pur.ofInts t) s) (h2 : cal (n + 4) "need_places" [Pur.ofInts t, dp] s = .ok (.lst (ps.map Pur.ofInts)) s) (hl : Len t.length ps) (hz : ps.length ≤ 1000000) :
    cal (n + 5) "least_places" [dt, dp] s = .ok (.tup ((leastOf ps).map Pur.ofInts)) s := by
  rw [un_least_places]
  refine Pur.runFn_ret ?_
  show Pur.exs _ _ _ c_least_places [some (.val dt), some (.val dp)] s = _
  exact Pur.exs_ret (Pur.qs_ret (Pur.qe_call (Pur.qe_one (Pur.qe_call (Pur.qe_two (Pur.qe_call (Pur.qe_one (Pur.qe_var (d := dt) rfl)) (h1 (n + 1))) (Pur.qe_var (d := dp) rfl)) h2)) (r_least_of (n := n + 2) (ne_of_len h hl) hz)) (Pur.frz_self rfl))
theorem r_greatestG (h : Tops t) (h1 : ∀ m, cal (m + 3) "need_tops" [dt] s = .ok (Pur.ofInts t) s) (h2 : cal (n + 4) "need_places" [Pur.ofInts t, dp] s = .ok (.lst (ps.map Pur.ofInts)) s) (hl : Len t.length ps) (hz : ps.length ≤ 1000000) :
    cal (n + 5) "greatest_places" [dt, dp] s = .ok (.tup ((greatestOf ps).map Pur.ofInts)) s := by
  rw [un_greatest_places]
  refine Pur.runFn_ret ?_
  show Pur.exs _ _ _ c_greatest_places [some (.val dt), some (.val dp)] s = _
  exact Pur.exs_ret (Pur.qs_ret (Pur.qe_call (Pur.qe_one (Pur.qe_call (Pur.qe_two (Pur.qe_call (Pur.qe_one (Pur.qe_var (d := dt) rfl)) (h1 (n + 1))) (Pur.qe_var (d := dp) rfl)) h2)) (r_greatest_of (n := n + 2) (ne_of_len h hl) hz)) (Pur.frz_self rfl))
end
end Lw36

/-! what is refused -/
namespace Lw36
open
    PySem PySem.Spec PyProof.Rows L2
variable {n : Nat} {s : Pur.Pn}
def badT : List (Str × Pur.D) := [("part", .str "tops")]
def badP : List (Str × Pur.D) := [("part", .str "places")]
theorem mk_t : mk "BadValue" [.str "tops"] = some badT := by kernel_rfl
theorem mk_p : mk "BadValue" [.str "places"] = some badP := by kernel_rfl
/-- the tops that are none -/
def bads : List Pur.D := [.non, .int 5, .tup [], .lst [.int 0], .lst [.int 21], .lst [.bl true], .str "1", .lst [.int 1, .int 1, .int 1, .int 1, .int 1, .int 1, .int 1, .int 1, .int 1, .int 1, .int 1, .int 1, .int 1], .lst [.non], .dic]
theorem r_bad {d : Pur.D} (h : d ∈ bads) : cal (n + 3) "need_tops" [d] s = .exc "BadValue" badT s := by
  simp only [bads, List.mem_cons, List.not_mem_nil, or_false] at h
  rcases h with rfl | rfl | rfl | rfl | rfl | rfl | rfl | rfl | rfl | rfl <;> kernel_rfl
/-- what is no place -/
def NoPl (t : List Int) (d : Pur.D) : Prop := ∀ (n : Nat) (s : Pur.Pn), cal (n + 3) "is_place" [Pur.ofInts t, d] s = .ok (.bl false) s
theorem np_int {t : List Int} {i : Int} : NoPl t (.int i) := fun n s => by kernel_rfl
theorem np_non {t : List Int} : NoPl t .non := fun n s => by kernel_rfl
theorem np_ints {t p : List Int} (h : isPlace t p = false) : NoPl t (Pur.ofInts p) := fun n s => by rw [r_is_place, h]
theorem np_true {t : List Int} (h0 : t ≠ []) : NoPl t (.tup (List.replicate t.length (.bl true))) := fun n s => by
  rw [un_is_place]
  refine Pur.runFn_ret ?_
  show Pur.exs _ _ _ c_is_place [some (.val (Pur.ofInts t)), some (.val (.tup (List.replicate t.length (.bl true)))), none, none] s = _
  refine Pur.exs_ret (Pur.qs_ret ?_ (Pur.frz_self rfl))
  have el : Pur.biD .len [Pur.ofInts t] = some (.int (t.length : Int)) := by unfold Pur.ofInts; rw [Pur.len_tup, List.length_map]
  refine Pur.qe_andT (x := .bl true) (s1 := s) ((Pur.qe_call (Pur.qe_two (Pur.qe_var (d := .tup (List.replicate t.length (.bl true))) rfl) (Pur.qe_bi (Pur.qe_one (Pur.qe_var (d := Pur.ofInts t) rfl)) el)) r_is_tuple_of).trans (by rw [List.length_replicate, decide_eq_true rfl])) rfl
    (Pur.qe_bi (Pur.qe_one (Pur.qe_lcT (enc := fun x : Int => .tup [.bl true, .int x]) (xs := t) (f := fun _ => true) (g := fun _ => .bl false) (ρ' := fun x => [some (Pur.ofInts t), some (.tup (List.replicate t.length (.bl true))), some (.bl true), some (.int x)]) (s1 := s) ?_ (fun q _ => rfl) (fun q _ => Pur.qt_nil) fun q _ _ => ?_)) ?_)
  · have e : ∀ l : List Int, Pur.zipD (List.replicate l.length (.bl true)) (l.map Pur.D.int) = l.map fun x => Pur.D.tup [.bl true, .int x] := fun l => by
      induction l with
      | nil => rfl
      | cons x l ih => rw [List.length_cons, List.replicate_succ, List.map_cons, List.map_cons, Pur.zipD, ih]
    rw [← e]
    exact Pur.qe_zip (Pur.qe_var (d := .tup (List.replicate t.length (.bl true))) rfl) (Pur.qe_var (d := Pur.ofInts t) rfl) rfl rfl
  · exact Pur.qe_call (Pur.qe_cons (Pur.qe_var (d := .bl true) rfl) (Pur.qe_two Pur.qe_const (Pur.qe_var (d := .int q) rfl))) (by kernel_rfl)
  · rw [List.filter_eq_self.mpr fun _ _ => rfl]
    refine (Pur.all_map (fun _ : Int => false) t).trans ?_
    cases t with
    | nil => exact absurd rfl h0
    | cons a l => rfl
theorem r_places_none {t : List Int} {d : Pur.D} (h : d = .non ∨ d = .int 5 ∨ d = .str "places") : cal (n + 4) "need_places" [Pur.ofInts t, d] s = .exc "BadValue" badP s := by
  rcases h with rfl | rfl | rfl <;> kernel_rfl
theorem r_places_one {t : List Int} {d : Pur.D} (h : NoPl t d) : cal (n + 4) "need_places" [Pur.ofInts t, .lst [d]] s = .exc "BadValue" badP s := by
  rw [un_need_places]
  refine Pur.runFn_exc ?_
  show Pur.exs _ _ _ c_need_places [some (.val (Pur.ofInts t)), some (.val (.lst [d])), none] s = _
  rw [c_need_places]
  refine Pur.exs_exc ?_
  have et : Pur.evTS (cal (n + 3)) (.or (.not (.call "is_listed" [(.var 1)])) (.not (.bi .all [(.lc [2] (.v 2) (.iVal (.var 1)) [] (.call "is_place" [(.var 0), (.var 2)]))]))) [some (.val (Pur.ofInts t)), some (.val (.lst [d])), none] s = .ok true s := by
    have e : Pur.ev (cal (n + 3)) (.or (.not (.call "is_listed" [(.var 1)])) (.not (.bi .all [(.lc [2] (.v 2) (.iVal (.var 1)) [] (.call "is_place" [(.var 0), (.var 2)]))]))) (Pur.vw (Pur.men (.or (.not (.call "is_listed" [(.var 1)])) (.not (.bi .all [(.lc [2] (.v 2) (.iVal (.var 1)) [] (.call "is_place" [(.var 0), (.var 2)]))])))) [some (.val (Pur.ofInts t)), some (.val (.lst [d])), none]) s = .ok (.bl true) s :=
      Pur.qe_orF (x := .bl false) (s1 := s) (Pur.qe_not (k := true) (Pur.qe_call (Pur.qe_one (Pur.qe_var (d := .lst [d]) rfl)) r_listedL) rfl) rfl
        (Pur.qe_not (k := false) (Pur.qe_bi (Pur.qe_one (Pur.qe_lcM (enc := fun x : Pur.D => x) (xs := [d]) (g := fun _ => .bl false) (Pur.qe_val (Pur.qe_var (d := .lst [d]) rfl) rfl) (by show 2 < 3; decide) fun p hp => Pur.qe_call (Pur.qe_two (Pur.qe_var (d := Pur.ofInts t) rfl) (Pur.qe_var (d := p) rfl)) (by rw [List.mem_singleton.mp hp]; exact h n s))) rfl) rfl)
    unfold Pur.evTS
    rw [Pur.bnd_okE e]
    rfl
  simp only [Pur.ex]
  rw [Pur.bnd_okE et, if_pos rfl]
  kernel_rfl
section
variable {t : List Int} {dt dp : Pur.D}
theorem qx_call {cs : Pur.CS} {ρ : List (Option Pur.D)} {f : Str} {args : List Pur.CE} {c : Str} {fs : List (Str × Pur.D)} {s s' : Pur.Pn} (h : Pur.evs cs args ρ s = .exc c fs s') : Pur.ev cs (.call f args) ρ s = .exc c fs s' := by
  simp only [Pur.ev]; exact Pur.bnd_excE h
theorem qx_hd {cs : Pur.CS} {ρ : List (Option Pur.D)} {a : Pur.CE} {args : List Pur.CE} {c : Str} {fs : List (Str × Pur.D)} {s s' : Pur.Pn} (h : Pur.ev cs a ρ s = .exc c fs s') : Pur.evs cs (a :: args) ρ s = .exc c fs s' := by
  simp only [Pur.evs]; exact Pur.bnd_excE h
theorem qx_tl {cs : Pur.CS} {ρ : List (Option Pur.D)} {a : Pur.CE} {args : List Pur.CE} {x : Pur.D} {c : Str} {fs : List (Str × Pur.D)} {s s1 s' : Pur.Pn} (h1 : Pur.ev cs a ρ s = .ok x s1) (h : Pur.evs cs args ρ s1 = .exc c fs s') : Pur.evs cs (a :: args) ρ s = .exc c fs s' := by
  simp only [Pur.evs]; rw [Pur.bnd_okE h1]; exact Pur.bnd_excE h
theorem qx_evS {cs : Pur.CS} {e : Pur.CE} {δ : Pur.Ev} {c : Str} {fs : List (Str × Pur.D)} {s s' : Pur.Pn} (h : Pur.ev cs e (Pur.vw (Pur.men e) δ) s = .exc c fs s') : Pur.evS cs e δ s = .exc c fs s' := Pur.bnd_excE h
theorem qx_ret {cs : Pur.CS} {mk : Pur.MkE} {W : Nat} {e : Pur.CE} {δ : Pur.Ev} {c : Str} {fs : List (Str × Pur.D)} {s s' : Pur.Pn} (h : Pur.ev cs e (Pur.vw (Pur.men e) δ) s = .exc c fs s') : Pur.ex cs mk W (.ret e) δ s = .exc c fs s' := by
  simp only [Pur.ex]; exact Pur.bnd_excE (qx_evS h)
theorem qx_asg {cs : Pur.CS} {mk : Pur.MkE} {W : Nat} {t : Pur.CT} {e : Pur.CE} {δ : Pur.Ev} {c : Str} {fs : List (Str × Pur.D)} {s s' : Pur.Pn} (h : Pur.ev cs e (Pur.vw (Pur.men e) δ) s = .exc c fs s') : Pur.ex cs mk W (.asg t e) δ s = .exc c fs s' := by
  simp only [Pur.ex]; exact Pur.bnd_excE (qx_evS h)
/-- the three of them -/
def asks : List Str := ["dual", "least_places", "greatest_places"]
theorem r_ask_tops {f : Str} (hf : f ∈ asks) {c : Str} {fs : List (Str × Pur.D)} (h : ∀ m, cal (m + 3) "need_tops" [dt] s = .exc c fs s) : cal (n + 5) f [dt, dp] s = .exc c fs s := by
  simp only [asks, List.mem_cons, List.not_mem_nil, or_false] at hf
  have a : ∀ δ : Pur.Ev, ∀ l, δ[0]? = some (some (.val dt)) → Pur.ev (cal (n + 4)) (.call "need_tops" [.var 0]) (Pur.vw l δ) s = .exc c fs s := fun δ l hd => Pur.qe_call (Pur.qe_one (Pur.qe_var (Pur.vw_at hd))) (h (n + 1))
  rcases hf with rfl | rfl | rfl
  · rw [un_dual]
    refine Pur.runFn_exc ?_
    show Pur.exs _ _ _ c_dual [some (.val dt), some (.val dp), none] s = _
    exact Pur.exs_exc (qx_asg (a _ _ rfl))
  · rw [un_least_places]
    refine Pur.runFn_exc ?_
    show Pur.exs _ _ _ c_least_places [some (.val dt), some (.val dp)] s = _
    exact Pur.exs_exc (qx_ret (qx_call (qx_hd (qx_call (qx_hd (a _ _ rfl))))))
  · rw [un_greatest_places]
    refine Pur.runFn_exc ?_
    show Pur.exs _ _ _ c_greatest_places [some (.val dt), some (.val dp)] s = _
    exact Pur.exs_exc (qx_ret (qx_call (qx_hd (qx_call (qx_hd (a _ _ rfl))))))
theorem r_ask_places {f : Str} (hf : f ∈ asks) {c : Str} {fs : List (Str × Pur.D)} (h1 : ∀ m, cal (m + 3) "need_tops" [dt] s = .ok (Pur.ofInts t) s) (h : ∀ m, cal (m + 4) "need_places" [Pur.ofInts t, dp] s = .exc c fs s) : cal (n + 5) f [dt, dp] s = .exc c fs s := by
  simp only [asks, List.mem_cons, List.not_mem_nil, or_false] at hf
  have a : ∀ δ : Pur.Ev, ∀ l, δ[0]? = some (some (.val dt)) → Pur.ev (cal (n + 4)) (.call "need_tops" [.var 0]) (Pur.vw l δ) s = .ok (Pur.ofInts t) s := fun δ l hd => Pur.qe_call (Pur.qe_one (Pur.qe_var (Pur.vw_at hd))) (h1 (n + 1))
  rcases hf with rfl | rfl | rfl
  · rw [un_dual]
    refine Pur.runFn_exc ?_
    show Pur.exs _ _ _ c_dual [some (.val dt), some (.val dp), none] s = _
    rw [c_dual, Pur.exs_next (s' := s) (δ' := [some (.val dt), some (.val dp), some (.val (Pur.ofInts t))]) (Pur.qs_asg (a _ _ rfl) (Pur.frz_self rfl) rfl)]
    exact Pur.exs_exc (qx_ret (qx_call (qx_tl (Pur.qe_var (d := Pur.ofInts t) rfl) (qx_hd (Pur.qe_call (Pur.qe_two (Pur.qe_var (d := Pur.ofInts t) rfl) (Pur.qe_var (d := dp) rfl)) (h n))))))
  · rw [un_least_places]
    refine Pur.runFn_exc ?_
    show Pur.exs _ _ _ c_least_places [some (.val dt), some (.val dp)] s = _
    exact Pur.exs_exc (qx_ret (qx_call (qx_hd (Pur.qe_call (Pur.qe_two (a _ _ rfl) (Pur.qe_var (d := dp) rfl)) (h n)))))
  · rw [un_greatest_places]
    refine Pur.runFn_exc ?_
    show Pur.exs _ _ _ c_greatest_places [some (.val dt), some (.val dp)] s = _
    exact Pur.exs_exc (qx_ret (qx_call (qx_hd (Pur.qe_call (Pur.qe_two (a _ _ rfl) (Pur.qe_var (d := dp) rfl)) (h n)))))
end
end Lw36

/-! the law: its draws -/
namespace Lw36
open
    PySem PySem.Spec PyProof.Rows L2
variable {n : Nat} {S : Pur.Pn}
/-- the pen is fit: at most k draws so far -/
def Fit (S : Pur.Pn) (k : Int) : Prop := 0 ≤ S.at_ ∧ S.at_ ≤ k
theorem Fit.go {S S' : Pur.Pn} {k i j : Int} (h : Fit S k) (d : Drawn S S' i) (e : k + i ≤ j) : Fit S' j := ⟨d.lo, by have := d.hi; have := h.2; omega⟩
theorem Fit.up {S : Pur.Pn} {k j : Int} (h : Fit S k) (e : k ≤ j) : Fit S j := ⟨h.1, Int.le_trans h.2 e⟩
theorem q_draw {ρ : List (Option Pur.D)} {m k : Int} (hp : (ρ[1]?).join = some .pen) (h1 : 0 < m) (h2 : m < 1073741824) (hf : Fit S k) (hk : k ≤ 1000000) :
    ∃ v S', Pur.ev (cal (n + 1)) (.call "_law_draw" [.var 1, .const (.int m)]) ρ S = .ok (.int v) S' ∧ 0 ≤ v ∧ v < m ∧ Fit S' (k + 1) := by
  obtain ⟨v, S', e, a, b, d⟩ := r_draw (n := n) (S := S) (m := m) h1 h2 hf.1 (by have := hf.2; omega)
  exact ⟨v, S', Pur.qe_call (Pur.qe_two (Pur.qe_var hp) Pur.qe_const) e, a, b, hf.go d (by omega)⟩
theorem r_pick {xs : List Pur.D} {k : Int} (h0 : xs ≠ []) (hl : xs.length ≤ 1000000) (hf : Fit S k) (hk : k ≤ 1000000) : ∃ x S', cal (n + 2) "_law_pick" [.pen, .lst xs] S = .ok x S' ∧ x ∈ xs ∧ Fit S' (k + 1) := by
  have hpos : 0 < xs.length := List.length_pos_iff.mpr h0
  obtain ⟨v, S', e, a, b, d⟩ := r_draw (n := n) (S := S) (m := (xs.length : Int)) (by omega) (by omega) hf.1 (by have := hf.2; omega)
  obtain ⟨i, rfl⟩ := Int.eq_ofNat_of_zero_le a
  have hi : i < xs.length := by omega
  refine ⟨xs[i], S', ?_, List.getElem_mem hi, hf.go d (by omega)⟩
  rw [un__law_pick]
  refine Pur.runFn_ret ?_
  show Pur.exs _ _ _ c__law_pick [some (.val .pen), some (.val (.lst xs))] S = _
  refine Pur.exs_ret (Pur.qs_ret (Pur.qe_ix (Pur.qe_var (d := .lst xs) rfl) (Pur.qe_call (Pur.qe_two (Pur.qe_var (d := .pen) rfl) (Pur.qe_bi (Pur.qe_one (Pur.qe_var (d := .lst xs) rfl)) (Pur.len_lst xs))) e) ?_) (Pur.frz_self rfl))
  rw [Pur.ixM_lst, Pur.atI_nat hi, List.getElem?_eq_getElem hi]
  rfl
theorem q_pick {ρ : List (Option Pur.D)} {e : Pur.CE} {xs : List Pur.D} {k : Int} (hp : (ρ[1]?).join = some .pen) (he : Pur.ev (cal (n + 2)) e ρ S = .ok (.lst xs) S) (h0 : xs ≠ []) (hl : xs.length ≤ 1000000) (hf : Fit S k) (hk : k ≤ 1000000) :
    ∃ x S', Pur.ev (cal (n + 2)) (.call "_law_pick" [.var 1, e]) ρ S = .ok x S' ∧ x ∈ xs ∧ Fit S' (k + 1) := by
  obtain ⟨x, S', h, hx, f⟩ := r_pick (n := n) h0 hl hf hk
  exact ⟨x, S', Pur.qe_call (Pur.qe_two (Pur.qe_var hp) he) h, hx, f⟩
/-- a comprehension whose element draws once -/
theorem comp_draw {body : Pur.D → Pur.M (Option Pur.D)} {P : Pur.D → Prop} : ∀ (ds acc : List Pur.D) (S : Pur.Pn) (k : Int), Fit S k → k + ds.length ≤ 1000000 →
    (∀ d ∈ ds, ∀ (S : Pur.Pn) (k : Int), Fit S k → k ≤ 1000000 → ∃ v S', body d S = .ok (some v) S' ∧ P v ∧ Fit S' (k + 1)) → ∃ out S', Pur.compGo body ds acc S = .ok (acc ++ out) S' ∧ out.length = ds.length ∧ (∀ v ∈ out, P v) ∧ Fit S' (k + ds.length)
  | [], acc, S, k, hf, _, _ => ⟨[], S, by simp [Pur.compGo, Pur.ret], rfl, by simp, by simpa using hf⟩
  | d :: ds, acc, S, k, hf, hk, h => by
    rw [List.length_cons] at hk
    obtain ⟨v, S1, e, hv, f1⟩ := h d (List.mem_cons_self ..) S k hf (by omega)
    obtain ⟨out, S2, e2, l2, h2, f2⟩ := comp_draw ds (acc ++ [v]) S1 (k + 1) f1 (by omega) fun d hd => h d (List.mem_cons_of_mem _ hd)
    refine ⟨v :: out, S2, ?_, by rw [List.length_cons, List.length_cons, l2], fun x hx => ?_, f2.up (by rw [List.length_cons]; omega)⟩
    · rw [Pur.compGo, Pur.bnd_okE e]
      simpa using e2
    · rcases List.mem_cons.mp hx with rfl | hx
      · exact hv
      · exact h2 x hx
theorem unmap {α : Type} {enc : α → Pur.D} {P : α → Prop} : ∀ {out : List Pur.D}, (∀ v ∈ out, ∃ x, v = enc x ∧ P x) → ∃ xs : List α, out = xs.map enc ∧ ∀ x ∈ xs, P x
  | [], _ => ⟨[], rfl, by simp⟩
  | v :: out, h => by
    obtain ⟨x, rfl, hx⟩ := h v (List.mem_cons_self ..)
    obtain ⟨xs, rfl, hxs⟩ := unmap (out := out) fun v hv => h v (List.mem_cons_of_mem _ hv)
    refine ⟨x :: xs, rfl, fun y hy => ?_⟩
    rcases
        List.mem_cons.mp hy with rfl | hy
    · exact hx
    · exact hxs y hy
theorem rng_nat {k : Nat} (h : k ≤ 1000000) : Pur.rng1D (.int (k : Int)) = some ((List.range k).map fun (i : Nat) => Pur.D.int (i : Int)) := by rw [Pur.rng1_ok h, range_nat]
/-- [pick(pen, e) for i in range(..)], the slot i of the comprehension's own -/
theorem q_picks {ρ : List (Option Pur.D)} {i : Nat} {it e : Pur.CE} {xs : List Pur.D} {k : Int} {c : Nat} {S1 : Pur.Pn} (hi : 1 < i) (hl : i < ρ.length) (hp : (ρ[1]?).join = some .pen) (hit : Pur.evI (cal (n + 2)) it ρ S = .ok ((List.range c).map fun (i : Nat) => Pur.D.int (i : Int)) S1)
    (he : ∀ (d : Pur.D) (S : Pur.Pn), Pur.ev (cal (n + 2)) e ((ρ.set i none).set i (some d)) S = .ok (.lst xs) S) (h0 : xs ≠ []) (hx : xs.length ≤ 1000000) (hf : Fit S1 k) (hk : k + c ≤ 1000000) :
    ∃ out S', Pur.ev (cal (n + 2)) (.lc [i] (.v i) it [] (.call "_law_pick" [.var 1, e])) ρ S = .ok (.lst out) S' ∧ out.length = c ∧ (∀ v ∈ out, v ∈ xs) ∧ Fit S' (k + c) := by
  obtain ⟨out, S', e1, l1, h1, f1⟩ := comp_draw (body := fun d => Pur.bnd (Pur.ofO (Pur.bindT (.v i) d (Pur.wipeD ρ [i]))) fun ρ' => Pur.bnd (Pur.evTs (cal (n + 2)) [] ρ') fun c => if c = true then Pur.bnd (Pur.ev (cal (n + 2)) (.call "_law_pick" [.var 1, e]) ρ') fun x => Pur.ret (some x) else Pur.ret none) (P := fun v => v ∈ xs)
    ((List.range c).map fun (i : Nat) => Pur.D.int (i : Int)) [] S1 k hf (by simpa using hk) fun d _ S k hf hk => by
      have eb : Pur.bindT (.v i) d (Pur.wipeD ρ [i]) = some ((ρ.set i none).set i (some d)) := by
        unfold Pur.bindT
        rw [if_pos (by rw [Pur.wipeD_len]; exact hl)]
        rfl
      obtain ⟨x, S', e2, hx2, f2⟩ := q_pick (n := n) (ρ := (ρ.set i none).set i (some d)) (by rw [List.getElem?_set_ne (by omega), List.getElem?_set_ne (by omega)]; exact hp) (he d S) h0 hx hf hk
      refine ⟨x, S', ?_, hx2, f2⟩
      rw [eb, Pur.bnd_ofOE, Pur.bnd_okE Pur.qt_nil, if_pos rfl, Pur.bnd_okE e2]
      rfl
  rw [List.nil_append] at e1
  exact ⟨out, S', Pur.qe_lc hit e1, by simpa using l1, h1, by simpa using f1⟩
/-! ### the statements -/
abbrev vl (d : Pur.D) : Option Pur.Sl := some (.val d)
/-- the law's slots -/
abbrev Z (x2 x3 x4 x5 x6 x7 x8 x9 : Option Pur.Sl) : Pur.Ev := [none, some (.val .pen), x2, x3, x4, x5, x6, x7, x8, x9, none, none, none, none, none, none]
abbrev pls (L : List (List Int)) : Pur.D := .lst (L.map Pur.ofInts)
def lS1 : Pur.CSt := .asg (.v 3) (.bi .tuple [(.lc [11] (.v 11) (.iRng1 (.bin .Add (.const (.int 1)) (.call "_law_draw" [(.var 1), (.const (.int 5))]))) [] (.call "_law_pick" [(.var 1), (.lst [(.const (.int 1)), (.const (.int 1)), (.const (.int 1)), (.const (.int 2)), (.const (.int 3)), (.const (.int 6))])]))])
def lS2 : Pur.CSt := .asg (.v 4) (.call "_law_places" [(.var 3)])
def lS3 : Pur.CSt := .ite (.cmp .Gt (.bi .len [(.var 4)]) (.const (.int 260))) [.cont] []
def lS4 : Pur.CSt := .asg (.v 5) (.lc [10] (.v 10) (.iRng1 (.call "_law_pick" [(.var 1), (.lst [(.const (.int 0)), (.const (.int 1)), (.const (.int 2)), (.const (.int 4)), (.const (.int 8))])])) [] (.call "_law_pick" [(.var 1), (.var 4)]))
def lS5 : Pur.CSt := .asg (.v 6) (.call "_law_greatest_places" [(.lc [12] (.v 12) (.iVal (.var 4)) [(.cmp .Eq (.lc [13] (.v 13) (.iVal (.var 5)) [(.call "_law_under" [(.var 13), (.var 12)])] (.var 13)) (.lst []))] (.var 12))])
def lS6 : Pur.CSt := .ite (.or (.cmp .NotEq (.call "dual" [(.var 3), (.var 5)]) (.bi .tuple [(.var 6)])) (.cmp .NotEq (.callK "dual" [1, 0] [(.lc [13] (.v 13) (.iVal (.var 5)) [] (.bi .list [(.var 13)])), (.bi .list [(.var 3)])]) (.bi .tuple [(.var 6)]))) [.ret (.const (.bl false))] []
def lS7 : Pur.CSt := .ite (.or (.cmp .NotEq (.call "least_places" [(.var 3), (.var 5)]) (.bi .tuple [(.call "_law_least_places" [(.var 5)])])) (.cmp .NotEq (.call "greatest_places" [(.var 3), (.var 5)]) (.bi .tuple [(.call "_law_greatest_places" [(.var 5)])]))) [.ret (.const (.bl false))] []
def lS8 : Pur.CSt := .ite (.or (.cmp .NotEq (.callK "least_places" [1, 0] [(.var 5), (.var 3)]) (.call "least_places" [(.var 3), (.rev (.var 5))])) (.cmp .NotEq (.call "dual" [(.var 3), (.call "least_places" [(.var 3), (.var 5)])]) (.bi .tuple [(.var 6)]))) [.ret (.const (.bl false))] []
def lS9 : Pur.CSt := .ite (.cmp .NotEq (.call "_law_least_places" [(.lc [12] (.v 12) (.iVal (.var 4)) [(.cmp .Eq (.lc [15] (.v 15) (.iVal (.var 6)) [(.call "_law_under" [(.var 12), (.var 15)])] (.var 15)) (.lst []))] (.var 12))]) (.call "_law_least_places" [(.var 5)])) [.ret (.const (.bl false))] []
def lS10 : Pur.CSt := .asg (.v 7) (.call "_law_pick" [(.var 1), (.lst [(.const .non), (.const (.int 5)), (.tup []), (.lst [(.const (.int 0))]), (.lst [(.const (.int 21))]), (.lst [(.const (.bl true))]), (.const (.str "1")), (.bin .Mult (.lst [(.const (.int 1))]) (.const (.int 13))), (.lst [(.const .non)]), .dict0])])
def lS11 : Pur.CSt := .asg (.v 8) (.call "_law_pick" [(.var 1), (.lst [(.const .non), (.const (.int 5)), (.lst [(.const (.int 5))]), (.lst [(.bin .Add (.var 3) (.tup [(.const (.int 0))]))]), (.lst [(.bi .tuple [(.lc [14] (.v 14) (.iVal (.var 3)) [] (.bin .Add (.var 14) (.const (.int 1))))])]), (.lst [(.bin .Mult (.tup [(.const (.bl true))]) (.bi .len [(.var 3)]))]), (.lst [(.const .non)]), (.lst [(.bin .Add (.tup [(.neg (.const (.int 1)))]) (.sl (.var 3) (some (.const (.int 1))) none))]), (.const (.str "places"))])])
def lA : Pur.CSt := .ite (.cmp .NotEq (.lst [(.heard Pur.heardHk (.callV 9 ["is_tuple_of", "is_place", "are_under", "cut_by", "dual_of", "need_places", "dual", "least_places", "greatest_places", "_law_draw", "_law_pick", "_law_under"] [(.var 7), (.var 8)])), (.heard Pur.heardHk (.callV 9 ["is_tuple_of", "is_place", "are_under", "cut_by", "dual_of", "need_places", "dual", "least_places", "greatest_places", "_law_draw", "_law_pick", "_law_under"] [(.var 3), (.var 8)]))]) (.lst [(.tup [(.const (.str "value")), (.const (.str "tops"))]), (.tup [(.const (.str "value")), (.const (.str "places"))])])) [.ret (.const (.bl false))] []
def lS12 : Pur.CSt := .for_ (.v 9) (.iVal (.tup [(.const (.fn "dual")), (.const (.fn "least_places")), (.const (.fn "greatest_places"))])) [lA]
def lB : List Pur.CSt := [lS1, lS2, lS3, lS4, lS5, lS6, lS7, lS8, lS9, lS10, lS11, lS12]
theorem lawC_eq : lawC = [.for_ (.v 2) (.iRng1 (.const (.int 5))) lB, .ret (.const (.bl true))] := rfl
/-- what is drawn as tops -/
structure Ts (ts : List Nat) : Prop where
  lo : 1 ≤ ts.length
  hi : ts.length ≤ 5
  in_ : ∀ x ∈ ts, 1 ≤ x ∧ x ≤ 6
theorem Ts.tops {ts : List Nat} (h : Ts ts) : Tops (tp ts) := ⟨by simp [tp]; exact h.lo, by simp [tp]; have := h.hi; omega, fun x hx => by
  obtain ⟨i, hi, rfl⟩ := List.mem_map.mp hx
  have := h.in_ i hi
  omega⟩
theorem tp_ofInts (ts : List Nat) : Pur.ofInts (tp ts) = .tup (ts.map fun (x : Nat) => Pur.D.int (x : Int)) := by
  unfold Pur.ofInts tp
  rw [List.map_map]; rfl
def dice : List Pur.D := [.int 1, .int 1, .int 1, .int 2, .int 3, .int 6]
def laps : List Pur.D := [.int 0, .int 1, .int 2, .int 4, .int 8]
section
variable {x2 x3 x4 x5 x6 x7 x8 x9 : Option Pur.Sl} {k : Int}
theorem x_S1 (hf : Fit S k) (hk : k ≤ 1000) : ∃ (ts : List Nat) (S' : Pur.Pn), Ts ts ∧ Fit S' (k + 6) ∧ Pur.ex (cal (n + 2)) mk 0 lS1 (Z x2 x3 x4 x5 x6 x7 x8 x9) S = .ok (.next (Z x2 (vl (Pur.ofInts (tp ts))) x4 x5 x6 x7 x8 x9)) S' := by
  obtain ⟨v, S1, e1, a1, b1, f1⟩ := q_draw (n := n + 1) (S := S) (ρ := Pur.vw (Pur.men (.bi .tuple [(.lc [11] (.v 11) (.iRng1 (.bin .Add (.const (.int 1)) (.call "_law_draw" [(.var 1), (.const (.int 5))]))) [] (.call "_law_pick" [(.var 1), (.lst [(.const (.int 1)), (.const (.int 1)), (.const (.int 1)), (.const (.int 2)), (.const (.int 3)), (.const (.int 6))])]))])) (Z x2 x3 x4 x5 x6 x7 x8 x9)) (m := 5) (Pur.vw_at rfl) (by omega) (by omega) hf (by omega)
  obtain ⟨j, rfl⟩ := Int.eq_ofNat_of_zero_le a1
  have er : (1 : Int) + (j : Int) = ((1 + j : Nat) : Int) := by omega
  have it := Pur.qe_rng (Pur.qe_bin Pur.qe_const e1 (z := .int ((1 + j : Nat) : Int)) (by rw [bin_add, er])) (rng_nat (k := 1 + j) (by omega))
  obtain ⟨out, S2, e2, l2, h2, f2⟩ := q_picks (n := n) (i := 11) (e := .lst [(.const (.int 1)), (.const (.int 1)), (.const (.int 1)), (.const (.int 2)), (.const (.int 3)), (.const (.int 6))]) (xs := dice) (by omega) (by show 11 < 16; decide) (Pur.vw_at rfl) it (fun d S => rfl) (by simp [dice]) (by decide) f1 (by omega)
  obtain ⟨ts, rfl, hts⟩ := unmap (enc := fun (x : Nat) => Pur.D.int (x : Int)) (P := fun x => 1 ≤ x ∧ x ≤ 6) (out := out) fun v hv => by
    have := h2 v hv
    simp only [dice, List.mem_cons, List.not_mem_nil, or_false] at this
    rcases this with rfl | rfl | rfl | rfl | rfl | rfl
    · exact ⟨1, rfl, by omega⟩
    · exact ⟨1, rfl, by omega⟩
    · exact ⟨1, rfl, by omega⟩
    · exact ⟨2, rfl, by omega⟩
    · exact ⟨3, rfl, by omega⟩
    · exact ⟨6, rfl, by omega⟩
  rw [List.length_map] at l2
  refine ⟨ts, S2, ⟨by omega, by omega, hts⟩, f2.up (by omega), ?_⟩
  rw [tp_ofInts]
  exact Pur.qs_asg (t := .v 3) (Pur.qe_bi (Pur.qe_one e2) (d := .tup (ts.map fun (x : Nat) => Pur.D.int (x : Int))) rfl) (Pur.frz_self rfl) rfl
section
variable {ts : List Nat} (h : Ts ts)
include h
theorem x_S2 : Pur.ex (cal (n + 2)) mk 0 lS2 (Z x2 (vl (Pur.ofInts (tp ts))) x4 x5 x6 x7 x8 x9) S = .ok (.next (Z x2 (vl (Pur.ofInts (tp ts))) (vl (pls (placesOf ts))) x5 x6 x7 x8 x9)) S :=
  Pur.qs_asg (t := .v 4) (Pur.qe_call (Pur.qe_one (Pur.qe_var (d := Pur.ofInts (tp ts)) rfl)) ((congrArg (fun d => cal (n + 2) "_law_places" [d] S) (tp_ofInts ts)).trans (r_places (n := n + 1) h.hi fun x hx => (h.in_ x hx).2))) (Pur.frz_self rfl) rfl
omit h in
theorem x_S3 {A : List (List Int)} : (A.length ≤ 260 ∧ Pur.ex (cal (n + 2)) mk 0 lS3 (Z x2 x3 (vl (pls A)) x5 x6 x7 x8 x9) S = .ok (.next (Z x2 x3 (vl (pls A)) x5 x6 x7 x8 x9)) S) ∨
    Pur.ex (cal (n + 2)) mk 0 lS3 (Z x2 x3 (vl (pls A)) x5 x6 x7 x8 x9) S = .ok (.cont (Z x2 x3 (vl (pls A)) x5 x6 x7 x8 x9)) S := by
  have ec : ∀ b, decide ((260 : Int) < (A.length : Int)) = b → Pur.ev (cal (n + 2)) (.cmp .Gt (.bi .len [(.var 4)]) (.const (.int 260))) (Pur.vw (Pur.men (.cmp .Gt (.bi .len [(.var 4)]) (.const (.int 260)))) (Z x2 x3 (vl (pls A)) x5 x6 x7 x8 x9)) S = .ok (.bl b) S := fun b hb =>
    Pur.qe_cmp (Pur.qe_bi (Pur.qe_one (Pur.qe_var (d := pls A) rfl)) (d := .int (A.length : Int)) (by show Pur.biD .len [.lst (A.map Pur.ofInts)] = _; rw [Pur.len_lst, List.length_map])) Pur.qe_const (by show some (decide ((260 : Int) < (A.length : Int))) = _; rw [hb])
  by_cases c : (260 : Int) < (A.length : Int)
  · right
    have et : Pur.evTS (cal (n + 2)) (.cmp .Gt (.bi .len [(.var 4)]) (.const (.int 260))) (Z x2 x3 (vl (pls A)) x5 x6 x7 x8 x9) S = .ok true S := by
      unfold Pur.evTS
      rw [Pur.bnd_okE (ec true (decide_eq_true c))]; rfl
    simp only [lS3, Pur.ex]
    rw [Pur.bnd_okE et, if_pos rfl]
    simp only [Pur.exs, Pur.ex]
    rfl
  · exact .inl ⟨by omega, Pur.qs_iteF (ec false (decide_eq_false c)) rfl⟩
omit h in
theorem x_S4 {A : List (List Int)} (h0 : A ≠ []) (hA : A.length ≤ 260) (hf : Fit S k) (hk : k ≤ 1000) : ∃ (P : List (List Int)) (S' : Pur.Pn), (∀ p ∈ P, p ∈ A) ∧ P.length ≤ 8 ∧ Fit S' (k + 9) ∧ Pur.ex (cal (n + 2)) mk 0 lS4 (Z x2 x3 (vl (pls A)) x5 x6 x7 x8 x9) S = .ok (.next (Z x2 x3 (vl (pls A)) (vl (pls P)) x6 x7 x8 x9)) S' := by
  obtain ⟨x, S1, e1, hx, f1⟩ := q_pick (n := n) (S := S) (ρ := Pur.vw (Pur.men (.lc [10] (.v 10) (.iRng1 (.call "_law_pick" [(.var 1), (.lst [(.const (.int 0)), (.const (.int 1)), (.const (.int 2)), (.const (.int 4)), (.const (.int 8))])])) [] (.call "_law_pick" [(.var 1), (.var 4)]))) (Z x2 x3 (vl (pls A)) x5 x6 x7 x8 x9)) (e := .lst [(.const (.int 0)), (.const (.int 1)), (.const (.int 2)), (.const (.int 4)), (.const (.int 8))]) (xs := laps) (Pur.vw_at rfl) rfl (by simp [laps]) (by decide) hf (by omega)
  obtain ⟨c, rfl, hc⟩ : ∃ c : Nat, x = .int (c : Int) ∧ c ≤ 8 := by
    simp only [laps, List.mem_cons, List.not_mem_nil, or_false] at hx
    rcases hx with rfl | rfl | rfl | rfl | rfl
    · exact ⟨0, rfl, by omega⟩
    · exact ⟨1, rfl, by omega⟩
    · exact ⟨2, rfl, by omega⟩
    · exact ⟨4, rfl, by omega⟩
    · exact ⟨8, rfl, by omega⟩
  obtain ⟨out, S2, e2, l2, h2, f2⟩ := q_picks (n := n) (i := 10) (e := .var 4) (xs := A.map Pur.ofInts) (by omega) (by show 10 < 16; decide) (Pur.vw_at rfl) (Pur.qe_rng e1 (rng_nat (by omega))) (fun d S => Pur.qe_var rfl) (by simpa using h0) (by rw [List.length_map]; omega) f1 (by omega)
  obtain ⟨P, rfl, hP⟩ := unmap (enc := Pur.ofInts) (P := fun p => p ∈ A) (out := out) fun v hv => by
    obtain ⟨p, hp, rfl⟩ := List.mem_map.mp (h2 v hv)
    exact ⟨p, rfl, hp⟩
  rw [List.length_map] at l2
  exact ⟨P, S2, hP, by omega, f2.up (by omega), Pur.qs_asg (t := .v 5) e2 (Pur.frz_self rfl) rfl⟩
end
end
end Lw36

/-! the law's statements; it answers True -/
namespace Lw36
open
    PySem PySem.Spec PyProof.Rows L2
variable {n : Nat} {S : Pur.Pn}
theorem box_place : ∀ {t p : List Int}, Box t p → isPlace t p = true := fun {t p} h => by
  unfold isPlace
  rw [decide_eq_true h.1, Bool.true_and, List.all_eq_true]
  intro q hq
  obtain ⟨i, hi⟩ := List.getElem?_of_mem hq
  rw [List.getElem?_zip_eq_some] at hi
  obtain ⟨h1, h2⟩ := hi
  have hi := (List.getElem?_eq_some_iff.mp h2).1
  have hb := h.2 i hi
  have e1 : co p i = q.1 := by unfold co; rw [List.getD_eq_getElem?_getD, h1]; rfl
  have e2 : co t i = q.2 := by unfold co; rw [List.getD_eq_getElem?_getD, h2]; rfl
  rw [e1, e2] at hb
  simp [hb.1, hb.2]
theorem tup_of (ds : List Pur.D) : Pur.biD .tuple [.lst ds] = some (.tup ds) := rfl
theorem nep (L : List (List Int)) : Pur.cmpD .NotEq (.tup (L.map Pur.ofInts)) (.tup (L.map Pur.ofInts)) = some false := Pur.ne_places L
/-- what a turn knows -/
structure Tn (ts : List Nat) (A P : List (List Int)) : Prop where
  t1 : Ts ts
  eA : A = placesOf ts
  zA : A.length ≤ 260
  hP : ∀ p ∈ P, p ∈ A
  zP : P.length ≤ 8
section
variable {ts : List Nat} {A P : List (List Int)} (h : Tn ts A P)
include h
theorem Tn.box : ∀ x, x ∈ A ↔ Box (tp ts) x := fun x => by rw [h.eA]; exact places_box
theorem Tn.pb : ∀ p ∈ P, Box (tp ts) p := fun p hp => (h.box p).mp (h.hP p hp)
theorem Tn.len : Len (tp ts).length P := fun p hp => (h.pb p hp).1
theorem Tn.pl : ∀ p ∈ P, isPlace (tp ts) p = true := fun p hp => box_place (h.pb p hp)
theorem Tn.ne : ∀ l ∈ A, l ≠ [] := ne_of_len h.t1.tops fun x hx => ((h.box x).mp hx).1
theorem Tn.dual : ∃ W, dualGo [tp ts] P = some W ∧ Pur.srtT W = lawG (downs A P) := dual_all h.box h.pb h.t1.tops.nn (by have := h.zA; omega)
/-- dual of the places, however given -/
theorem Tn.rdual {dt dp : Pur.D} {enc : List Int → Pur.D} (ht : dt = Pur.ofInts (tp ts) ∨ dt = lsI (tp ts)) (he : ∀ p, enc p = Pur.ofInts p ∨ enc p = lsI p) (hd : dp = .lst (P.map enc) ∨ dp = .tup (P.map enc)) : cal (n + 5) "dual" [dt, dp] S = .ok (.tup ((lawG (downs A P)).map Pur.ofInts)) S := by
  obtain ⟨W, e, eW⟩ := h.dual
  rw [← eW]
  exact r_dualG h.t1.tops (fun m => r_topsG h.t1.tops ht) (r_placesG h.pl he hd) h.len e
theorem Tn.rleast {Q : List (List Int)} (hQ : ∀ q ∈ Q, q ∈ P) (hz : Q.length ≤ 8) : cal (n + 5) "least_places" [Pur.ofInts (tp ts), pls Q] S = .ok (.tup ((leastOf Q).map Pur.ofInts)) S :=
  r_leastG h.t1.tops (fun m => r_topsG h.t1.tops (.inl rfl)) (r_placesG (fun p hp => h.pl p (hQ p hp)) (fun _ => .inl rfl) (.inl rfl)) (fun q hq => h.len q (hQ q hq)) (by omega)
theorem Tn.rgreatest : cal (n + 5) "greatest_places" [Pur.ofInts (tp ts), pls P] S = .ok (.tup ((greatestOf P).map Pur.ofInts)) S :=
  r_greatestG h.t1.tops (fun m => r_topsG h.t1.tops (.inl rfl)) (r_placesG h.pl (fun _ => .inl rfl) (.inl rfl)) h.len (by have := h.zP; omega)
theorem Tn.least : Tn ts A (leastOf P) := ⟨h.t1, h.eA, h.zA, fun p hp => h.hP p (least_sub hp), by
  have h1 := lGo_len (Pur.srtT (Pur.once P)) []
  rw [Pur.srtT_len, List.length_nil] at h1
  have := Pur.once_len P
  have := h.zP
  unfold leastOf
  omega⟩
theorem Tn.ne' : ∀ l ∈ P, l ≠ [] := fun l hl => h.ne l (h.hP l hl)
section
variable {x2 x7 x8 x9 : Option Pur.Sl}
/-- with walls -/
abbrev E (ts : List Nat) (A P : List (List Int)) (x2 x7 x8 x9 : Option Pur.Sl) : Pur.Ev := Z x2 (vl (Pur.ofInts (tp ts))) (vl (pls A)) (vl (pls P)) (vl (pls (lawG (downs A P)))) x7 x8 x9
theorem x_S5 {x6 : Option Pur.Sl} : Pur.ex (cal (n + 5)) mk 0 lS5 (Z x2 (vl (Pur.ofInts (tp ts))) (vl (pls A)) (vl (pls P)) x6 x7 x8 x9) S = .ok (.next (E ts A P x2 x7 x8 x9)) S := by
  refine Pur.qs_asg (t := .v 6) (d := pls (lawG (downs A P))) (Pur.qe_call (Pur.qe_one (Pur.qe_lcF (enc := Pur.ofInts) (xs := A) (f := fun x => (P.filter fun o => under o x).isEmpty) (g := Pur.ofInts) (Pur.qe_val (Pur.qe_var (Pur.vw_at rfl)) rfl) (Pur.vw_lt (by show 12 < 16; decide)) (fun x _ => ?_) fun x _ _ => Pur.qe_var (Pur.lc_self (Pur.vw_lt (by show 12 < 16; decide))))) (r_law_greatest (n := n + 3) (P := downs A P) (fun l hl => h.ne l (List.mem_filter.mp hl).1) (Nat.le_trans (List.length_filter_le _ _) (by have := h.zA; omega)))) (Pur.frz_self rfl) rfl
  exact Pur.qt_one (Pur.qe_cmp (Pur.qe_lcF (enc := Pur.ofInts) (xs := P) (f := fun o => under o x) (g := Pur.ofInts) (Pur.qe_val (Pur.qe_var (Pur.lc_off (Pur.vw_at rfl) (by decide) (by decide))) rfl) (Pur.lc_lt (Pur.vw_lt (by show 13 < 16; decide))) (fun o _ => Pur.qt_one (Pur.qe_call (Pur.qe_two (Pur.qe_var (Pur.lc_self (Pur.lc_lt (Pur.vw_lt (by show 13 < 16; decide))))) (Pur.qe_var (Pur.lc_off (Pur.lc_self (Pur.vw_lt (by show 12 < 16; decide))) (by decide) (by decide)))) r_law_under) rfl) fun o _ _ => Pur.qe_var (Pur.lc_self (Pur.lc_lt (Pur.vw_lt (by show 13 < 16; decide))))) (Pur.qe_lst Pur.qe_nil) (nil_places _)) rfl
theorem x_S6 : Pur.ex (cal (n + 5)) mk 0 lS6 (E ts A P x2 x7 x8 x9) S = .ok (.next (E ts A P x2 x7 x8 x9)) S := by
  refine Pur.qs_iteF (d := .bl false) (Pur.qe_orF (x := .bl false) (s1 := S) ?_ rfl ?_) rfl
  · exact Pur.qe_cmp (Pur.qe_call (Pur.qe_two (Pur.qe_var (Pur.vw_at rfl)) (Pur.qe_var (Pur.vw_at rfl))) (h.rdual (enc := Pur.ofInts) (.inl rfl) (fun _ => .inl rfl) (.inl rfl))) (Pur.qe_bi (Pur.qe_one (Pur.qe_var (Pur.vw_at rfl))) (tup_of _)) (nep _)
  · exact Pur.qe_cmp (Pur.qe_callK (Pur.qe_two (Pur.qe_lcM (enc := Pur.ofInts) (xs := P) (g := lsI) (Pur.qe_val (Pur.qe_var (Pur.vw_at rfl)) rfl) (Pur.vw_lt (by show 13 < 16; decide)) fun p _ => Pur.qe_bi (Pur.qe_one (Pur.qe_var (Pur.lc_self (Pur.vw_lt (by show 13 < 16; decide))))) rfl) (Pur.qe_bi (Pur.qe_one (Pur.qe_var (Pur.vw_at rfl))) (d := lsI (tp ts)) rfl)) (es := [lsI (tp ts), .lst (P.map lsI)]) rfl (h.rdual (enc := lsI) (.inr rfl) (fun _ => .inr rfl) (.inl rfl))) (Pur.qe_bi (Pur.qe_one (Pur.qe_var (Pur.vw_at rfl))) (tup_of _)) (nep _)
theorem x_S7 : Pur.ex (cal (n + 5)) mk 0 lS7 (E ts A P x2 x7 x8 x9) S = .ok (.next (E ts A P x2 x7 x8 x9)) S := by
  have zP := h.zP
  refine Pur.qs_iteF (d := .bl false) (Pur.qe_orF (x := .bl false) (s1 := S) ?_ rfl ?_) rfl
  · have r := h.rleast (n := n) (S := S) (Q := P) (fun _ hq => hq) zP
    rw [least_eq h.len] at r
    exact Pur.qe_cmp (Pur.qe_call (Pur.qe_two (Pur.qe_var (Pur.vw_at rfl)) (Pur.qe_var (Pur.vw_at rfl))) r) (Pur.qe_bi (Pur.qe_one (Pur.qe_call (Pur.qe_one (Pur.qe_var (Pur.vw_at rfl))) (r_law_least (n := n + 3) h.ne' (by omega)))) (tup_of _)) (nep _)
  · have r := h.rgreatest (n := n) (S := S)
    rw [greatest_eq h.len] at r
    exact Pur.qe_cmp (Pur.qe_call (Pur.qe_two (Pur.qe_var (Pur.vw_at rfl)) (Pur.qe_var (Pur.vw_at rfl))) r) (Pur.qe_bi (Pur.qe_one (Pur.qe_call (Pur.qe_one (Pur.qe_var (Pur.vw_at rfl))) (r_law_greatest (n := n + 3) h.ne' (by omega)))) (tup_of _)) (nep _)
theorem x_S8 : Pur.ex (cal (n + 5)) mk 0 lS8 (E ts A P x2 x7 x8 x9) S = .ok (.next (E ts A P x2 x7 x8 x9)) S := by
  have zP := h.zP
  have r := h.rleast (n := n) (S := S) (Q := P) (fun _ hq => hq) zP
  refine Pur.qs_iteF (d := .bl false) (Pur.qe_orF (x := .bl false) (s1 := S) ?_ rfl ?_) rfl
  · have r2 := h.rleast (n := n) (S := S) (Q := P.reverse) (fun _ hq => List.mem_reverse.mp hq) (by simpa using zP)
    rw [least_rev] at r2
    have er : Pur.revD (pls P) = some (pls P.reverse) := by show some (Pur.D.lst (P.map Pur.ofInts).reverse) = _; rw [← List.map_reverse]
    exact Pur.qe_cmp (Pur.qe_callK (Pur.qe_two (Pur.qe_var (Pur.vw_at rfl)) (Pur.qe_var (Pur.vw_at rfl))) (es := [Pur.ofInts (tp ts), pls P]) rfl r) (Pur.qe_call (Pur.qe_two (Pur.qe_var (Pur.vw_at rfl)) (Pur.qe_rev (Pur.qe_var (Pur.vw_at rfl)) er)) r2) (nep _)
  · have rd := h.least.rdual (n := n) (S := S) (dt := Pur.ofInts (tp ts)) (dp := .tup ((leastOf P).map Pur.ofInts)) (enc := Pur.ofInts) (.inl rfl) (fun _ => .inl rfl) (.inr rfl)
    rw [downs_least h.box h.pb] at rd
    exact Pur.qe_cmp (Pur.qe_call (Pur.qe_two (Pur.qe_var (Pur.vw_at rfl)) (Pur.qe_call (Pur.qe_two (Pur.qe_var (Pur.vw_at rfl)) (Pur.qe_var (Pur.vw_at rfl))) r)) rd) (Pur.qe_bi (Pur.qe_one (Pur.qe_var (Pur.vw_at rfl))) (tup_of _)) (nep _)
theorem x_S9 : Pur.ex (cal (n + 5)) mk 0 lS9 (E ts A P x2 x7 x8 x9) S = .ok (.next (E ts A P x2 x7 x8 x9)) S := by
  have zP := h.zP
  have zA := h.zA
  obtain ⟨W, e, eW⟩ := h.dual
  have hW := dualGo_walls (S := []) (fun _ h => by cases h) h.len (walls_nil h.t1.tops.nn) e
  have bk := back (W := lawG (downs A P)) h.box h.pb fun x => by rw [← eW, Pur.srtT_mem]; exact hW.mem x
  have r1 := r_law_least (n := n + 3) (s := S) (P := A.filter fun x => ((lawG (downs A P)).filter fun w => under x w).isEmpty) (fun l hl => h.ne l (List.mem_filter.mp hl).1) (Nat.le_trans (List.length_filter_le _ _) (by omega))
  rw [bk] at r1
  have nl : Pur.cmpD .NotEq (pls (lawL P)) (pls (lawL P)) = some false := (Pur.ne_lstP _ _).trans (by rw [decide_eq_true rfl]; rfl)
  refine Pur.qs_iteF (d := .bl false) (Pur.qe_cmp (Pur.qe_call (Pur.qe_one (Pur.qe_lcF (enc := Pur.ofInts) (xs := A) (f := fun x => ((lawG (downs A P)).filter fun w => under x w).isEmpty) (g := Pur.ofInts) (Pur.qe_val (Pur.qe_var (Pur.vw_at rfl)) rfl) (Pur.vw_lt (by show 12 < 16; decide)) (fun x _ => ?_) fun x _ _ => Pur.qe_var (Pur.lc_self (Pur.vw_lt (by show 12 < 16; decide))))) r1) (Pur.qe_call (Pur.qe_one (Pur.qe_var (Pur.vw_at rfl))) (r_law_least (n := n + 3) h.ne' (by omega))) nl) rfl
  exact Pur.qt_one (Pur.qe_cmp (Pur.qe_lcF (enc := Pur.ofInts) (xs := lawG (downs A P)) (f := fun w => under x w) (g := Pur.ofInts) (Pur.qe_val (Pur.qe_var (Pur.lc_off (Pur.vw_at rfl) (by decide) (by decide))) rfl) (Pur.lc_lt (Pur.vw_lt (by show 15 < 16; decide))) (fun o _ => Pur.qt_one (Pur.qe_call (Pur.qe_two (Pur.qe_var (Pur.lc_off (Pur.lc_self (Pur.vw_lt (by show 12 < 16; decide))) (by decide) (by decide))) (Pur.qe_var (Pur.lc_self (Pur.lc_lt (Pur.vw_lt (by show 15 < 16; decide)))))) r_law_under) rfl) fun o _ _ => Pur.qe_var (Pur.lc_self (Pur.lc_lt (Pur.vw_lt (by show 15 < 16; decide))))) (Pur.qe_lst Pur.qe_nil) (nil_places _)) rfl
omit h in
theorem x_S10 {x3 x4 x5 x6 : Option Pur.Sl} {k : Int} (hf : Fit S k) (hk : k ≤ 1000) : ∃ (d : Pur.D) (S' : Pur.Pn), d ∈ bads ∧ Fit S' (k + 1) ∧ Pur.ex (cal (n + 5)) mk 0 lS10 (Z x2 x3 x4 x5 x6 x7 x8 x9) S = .ok (.next (Z x2 x3 x4 x5 x6 (vl d) x8 x9)) S' := by
  obtain ⟨x, S1, e1, hx, f1⟩ := q_pick (n := n + 3) (S := S) (ρ := Pur.vw (Pur.men (.call "_law_pick" [(.var 1), (.lst [(.const .non), (.const (.int 5)), (.tup []), (.lst [(.const (.int 0))]), (.lst [(.const (.int 21))]), (.lst [(.const (.bl true))]), (.const (.str "1")), (.bin .Mult (.lst [(.const (.int 1))]) (.const (.int 13))), (.lst [(.const .non)]), .dict0])])) (Z x2 x3 x4 x5 x6 x7 x8 x9)) (e := .lst [(.const .non), (.const (.int 5)), (.tup []), (.lst [(.const (.int 0))]), (.lst [(.const (.int 21))]), (.lst [(.const (.bl true))]), (.const (.str "1")), (.bin .Mult (.lst [(.const (.int 1))]) (.const (.int 13))), (.lst [(.const .non)]), .dict0]) (xs := bads) (Pur.vw_at rfl) (by kernel_rfl) (by simp [bads]) (by decide) hf (by omega)
  exact ⟨x, S1, hx, f1, Pur.qs_asg (t := .v 7) e1 (Pur.frz_self rfl) rfl⟩
end
end
/-- the places that are none -/
def odds (t : List Int) : List Pur.D := [.non, .int 5, .lst [.int 5], .lst [Pur.ofInts (t ++ [0])], .lst [Pur.ofInts (t.map (· + 1))], .lst [.tup (List.replicate t.length (.bl true))], .lst [.non], .lst [Pur.ofInts (-1 :: t.drop 1)], .str "places"]
theorem r_odd {t : List Int} {d : Pur.D} (h0 : 0 < t.length) (hn : ∀ x ∈ t, 0 ≤ x) (h : d ∈ odds t) : cal (n + 4) "need_places" [Pur.ofInts t, d] S = .exc "BadValue" badP S := by
  simp only [odds, List.mem_cons, List.not_mem_nil, or_false] at h
  have ne : t ≠ [] := fun e => by rw [e] at h0; simp at h0
  obtain ⟨a, l, rfl⟩ := List.exists_cons_of_ne_nil ne
  rcases h with rfl | rfl | rfl | rfl | rfl | rfl | rfl | rfl | rfl
  · exact r_places_none (.inl rfl)
  · exact r_places_none (.inr (.inl rfl))
  · exact r_places_one np_int
  · exact r_places_one (np_ints (by simp [isPlace]))
  · exact r_places_one (np_ints (by simp [isPlace]; intro _ h; omega))
  · exact r_places_one (np_true ne)
  · exact r_places_one np_non
  · exact r_places_one (np_ints (by simp [isPlace]))
  · exact r_places_none (.inr (.inr rfl))
theorem mul_true (m : Nat) (h : 1 ≤ m ∧ m ≤ 5) : Pur.binD .Mult (.tup [.bl true]) (.int (m : Int)) = some (.tup (List.replicate m (.bl true))) := by
  rcases (show m = 1 ∨ m = 2 ∨ m = 3 ∨ m = 4 ∨ m = 5 by omega) with r | r | r | r | r <;> subst r <;> rfl
section
variable {ts : List Nat} (h : Ts ts) {x2 x4 x5 x6 x7 x8 x9 : Option Pur.Sl}
include h
theorem x_S11 {k : Int} (hf : Fit S k) (hk : k ≤ 1000) : ∃ (d : Pur.D) (S' : Pur.Pn), d ∈ odds (tp ts) ∧ Fit S' (k + 1) ∧ Pur.ex (cal (n + 5)) mk 0 lS11 (Z x2 (vl (Pur.ofInts (tp ts))) x4 x5 x6 x7 x8 x9) S = .ok (.next (Z x2 (vl (Pur.ofInts (tp ts))) x4 x5 x6 x7 (vl d) x9)) S' := by
  have hl : (tp ts).length = ts.length := by simp [tp]
  have h1 := h.lo
  have h5 := h.hi
  have a1 : Pur.binD .Add (Pur.ofInts (tp ts)) (.tup [.int 0]) = some (Pur.ofInts (tp ts ++ [0])) := by
    unfold Pur.ofInts
    rw [bin_app (by simp [tp]; omega), List.map_append]; rfl
  have a2 : Pur.binD .Mult (.tup [.bl true]) (.int ((tp ts).length : Int)) = some (.tup (List.replicate (tp ts).length (.bl true))) := mul_true _ (by omega)
  have a3 : Pur.sliceD (Pur.ofInts (tp ts)) (some 1) none = some (.tup (((tp ts).drop 1).map Pur.D.int)) := by
    have := Pur.cut_hi ((tp ts).map Pur.D.int) 1
    show some (Pur.D.tup (Pur.cutL ((tp ts).map Pur.D.int) (some 1) none)) = _
    rw [show (some (1 : Int)) = some ((1 : Nat) : Int) from rfl, this, ← List.map_drop]
  have a4 : Pur.binD .Add (.tup [.int (-1)]) (.tup (((tp ts).drop 1).map Pur.D.int)) = some (Pur.ofInts (-1 :: (tp ts).drop 1)) := by
    rw [bin_app (by simp [tp]; omega)]; rfl
  have el : Pur.biD .len [Pur.ofInts (tp ts)] = some (.int ((tp ts).length : Int)) := by unfold Pur.ofInts; rw [Pur.len_tup, List.length_map]
  have esl : ∀ ρ : List (Option Pur.D), (ρ[3]?).join = some (Pur.ofInts (tp ts)) → Pur.ev (cal (n + 5)) (.sl (.var 3) (some (.const (.int 1))) none) ρ S = .ok (.tup (((tp ts).drop 1).map Pur.D.int)) S := fun ρ hρ => by
    simp only [Pur.ev, Pur.evP, hρ]
    show Pur.ofO (Pur.sliceD (Pur.ofInts (tp ts)) (some 1) none) S = _
    rw [a3]; rfl
  have em : ∀ ρ : List (Option Pur.D), 14 < ρ.length → (ρ[3]?).join = some (Pur.ofInts (tp ts)) → Pur.ev (cal (n + 5)) (.lc [14] (.v 14) (.iVal (.var 3)) [] (.bin .Add (.var 14) (.const (.int 1)))) ρ S = .ok (.lst (((tp ts).map (· + 1)).map Pur.D.int)) S := fun ρ hρ h3 => by
    refine (Pur.qe_lcM (enc := Pur.D.int) (xs := tp ts) (g := fun x => .int (x + 1)) (Pur.qe_val (Pur.qe_var h3) rfl) hρ fun x _ => Pur.qe_bin (Pur.qe_var (d := .int x) (Pur.set_at (by rw [Pur.wipeD_len]; exact hρ))) Pur.qe_const (bin_add x 1)).trans ?_
    rw [List.map_map]; rfl
  have he : ∀ ρ : List (Option Pur.D), 14 < ρ.length → (ρ[3]?).join = some (Pur.ofInts (tp ts)) → Pur.ev (cal (n + 5)) (.lst [(.const .non), (.const (.int 5)), (.lst [(.const (.int 5))]), (.lst [(.bin .Add (.var 3) (.tup [(.const (.int 0))]))]), (.lst [(.bi .tuple [(.lc [14] (.v 14) (.iVal (.var 3)) [] (.bin .Add (.var 14) (.const (.int 1))))])]), (.lst [(.bin .Mult (.tup [(.const (.bl true))]) (.bi .len [(.var 3)]))]), (.lst [(.const .non)]), (.lst [(.bin .Add (.tup [(.neg (.const (.int 1)))]) (.sl (.var 3) (some (.const (.int 1))) none))]), (.const (.str "places"))]) ρ S = .ok (.lst (odds (tp ts))) S := fun ρ hρ hρ3 => by
    refine Pur.qe_lst (Pur.qe_cons Pur.qe_const (Pur.qe_cons Pur.qe_const (Pur.qe_cons (Pur.qe_lst (Pur.qe_one Pur.qe_const)) (Pur.qe_cons (Pur.qe_lst (Pur.qe_one (Pur.qe_bin (Pur.qe_var (hρ3)) (Pur.qe_tup (Pur.qe_one Pur.qe_const)) a1))) (Pur.qe_cons (Pur.qe_lst (Pur.qe_one (Pur.qe_bi (Pur.qe_one (em _ hρ (hρ3))) (d := Pur.ofInts ((tp ts).map (· + 1))) rfl)))
      (Pur.qe_cons (Pur.qe_lst (Pur.qe_one (Pur.qe_bin (Pur.qe_tup (Pur.qe_one Pur.qe_const)) (Pur.qe_bi (Pur.qe_one (Pur.qe_var (hρ3))) el) a2))) (Pur.qe_cons (Pur.qe_lst (Pur.qe_one Pur.qe_const)) (Pur.qe_two (Pur.qe_lst (Pur.qe_one (Pur.qe_bin (Pur.qe_tup (Pur.qe_one (x := .int (-1)) ?_)) (esl _ (hρ3)) a4))) Pur.qe_const))))))))
    simp only [Pur.ev]; rfl
  obtain ⟨x, S1, e1, hx, f1⟩ := q_pick (n := n + 3) (S := S) (ρ := Pur.vw (Pur.men (.call "_law_pick" [(.var 1), (.lst [(.const .non), (.const (.int 5)), (.lst [(.const (.int 5))]), (.lst [(.bin .Add (.var 3) (.tup [(.const (.int 0))]))]), (.lst [(.bi .tuple [(.lc [14] (.v 14) (.iVal (.var 3)) [] (.bin .Add (.var 14) (.const (.int 1))))])]), (.lst [(.bin .Mult (.tup [(.const (.bl true))]) (.bi .len [(.var 3)]))]), (.lst [(.const .non)]), (.lst [(.bin .Add (.tup [(.neg (.const (.int 1)))]) (.sl (.var 3) (some (.const (.int 1))) none))]), (.const (.str "places"))])])) (Z x2 (vl (Pur.ofInts (tp ts))) x4 x5 x6 x7 x8 x9)) (Pur.vw_at rfl) (he _ (Pur.vw_lt (by show 14 < 16; decide)) (Pur.vw_at rfl)) (by simp [odds]) (by simp [odds]) hf (by omega)
  exact ⟨x, S1, hx, f1, Pur.qs_asg (t := .v 8) e1 (Pur.frz_self rfl) rfl⟩
theorem x_A {f : Str} (hf : f ∈ asks) {bad odd : Pur.D} (hb : bad ∈ bads) (ho : odd ∈ odds (tp ts)) : Pur.exs (cal (n + 5)) mk 0 [lA] (Z x2 (vl (Pur.ofInts (tp ts))) x4 x5 x6 (vl bad) (vl odd) (vl (.fn f))) S = .ok (.next (Z x2 (vl (Pur.ofInts (tp ts))) x4 x5 x6 (vl bad) (vl odd) (vl (.fn f)))) S := by
  have hok : (["is_tuple_of", "is_place", "are_under", "cut_by", "dual_of", "need_places", "dual", "least_places", "greatest_places", "_law_draw", "_law_pick", "_law_under"] : List Str).contains f = true := by
    simp only [asks, List.mem_cons, List.not_mem_nil, or_false] at hf
    rcases hf with rfl | rfl | rfl <;> decide +kernel
  have nn : ∀ x ∈ tp ts, 0 ≤ x := fun x hx => by have := (h.tops.in_ x hx).1; omega
  have r1 := r_ask_tops (n := n) (s := S) (dp := odd) hf (fun m => r_bad (n := m) (s := S) hb)
  have r2 := r_ask_places (n := n) (s := S) (t := tp ts) (dt := Pur.ofInts (tp ts)) (dp := odd) hf (fun m => r_topsG h.tops (.inl rfl)) fun m => r_odd (n := m) (S := S) h.tops.lo nn ho
  rw [Pur.exs_next (s' := S) (δ' := Z x2 (vl (Pur.ofInts (tp ts))) x4 x5 x6 (vl bad) (vl odd) (vl (.fn f))) ?_, Pur.exs_nilE]
  refine Pur.qs_iteF (d := .bl false) (Pur.qe_cmp (Pur.qe_lst (Pur.qe_two (Pur.qe_heard (k := "BadValue") (fs := badT) (d := .tup [.str "value", .str "tops"]) (Pur.qe_callV (f := f) (Pur.vw_at rfl) hok (Pur.qe_two (Pur.qe_var (Pur.vw_at rfl)) (Pur.qe_var (Pur.vw_at rfl))) r1) (by kernel_rfl)) (Pur.qe_heard (k := "BadValue") (fs := badP) (d := .tup [.str "value", .str "places"]) (Pur.qe_callV (f := f) (Pur.vw_at rfl) hok (Pur.qe_two (Pur.qe_var (Pur.vw_at rfl)) (Pur.qe_var (Pur.vw_at rfl))) r2) (by kernel_rfl))))
    (Pur.qe_lst (Pur.qe_two (Pur.qe_tup (Pur.qe_two Pur.qe_const Pur.qe_const)) (Pur.qe_tup (Pur.qe_two Pur.qe_const Pur.qe_const)))) (by kernel_rfl)) rfl
theorem x_S12 {bad odd : Pur.D} (hb : bad ∈ bads) (ho : odd ∈ odds (tp ts)) : ∃ y9, Pur.ex (cal (n + 5)) mk 0 lS12 (Z x2 (vl (Pur.ofInts (tp ts))) x4 x5 x6 (vl bad) (vl odd) x9) S = .ok (.next (Z x2 (vl (Pur.ofInts (tp ts))) x4 x5 x6 (vl bad) (vl odd) (vl y9))) S := by
  refine ⟨.fn "greatest_places", ?_⟩
  have it : Pur.evIS (cal (n + 5)) (.iVal (.tup [(.const (.fn "dual")), (.const (.fn "least_places")), (.const (.fn "greatest_places"))])) (Z x2 (vl (Pur.ofInts (tp ts))) x4 x5 x6 (vl bad) (vl odd) x9) S = .ok ([.fn "dual", .fn "least_places", .fn "greatest_places"], Z x2 (vl (Pur.ofInts (tp ts))) x4 x5 x6 (vl bad) (vl odd) x9) S := by
    unfold Pur.evIS
    rw [Pur.bnd_okE (Pur.qe_val (Pur.qe_tup (Pur.qe_cons Pur.qe_const (Pur.qe_two Pur.qe_const Pur.qe_const))) rfl), if_neg (by decide), Pur.frz_self rfl]
    rfl
  have st : ∀ (d : Pur.D) (y9 : Option Pur.Sl), Pur.bindS (.v 9) d (Z x2 (vl (Pur.ofInts (tp ts))) x4 x5 x6 (vl bad) (vl odd) y9) = some (Z x2 (vl (Pur.ofInts (tp ts))) x4 x5 x6 (vl bad) (vl odd) (vl d)) := fun d y9 => rfl
  simp only [lS12, Pur.ex]
  rw [Pur.bnd_okE it]
  simp only [Pur.forGo, st, Pur.bnd_some]
  rw [Pur.bnd_okE (x_A h (by simp [asks]) hb ho)]
  dsimp only
  simp only [st, Pur.bnd_some]
  rw [Pur.bnd_okE (x_A h (by simp [asks]) hb ho)]
  dsimp only
  simp only [st, Pur.bnd_some]
  rw [Pur.bnd_okE (x_A h (by simp [asks]) hb ho)]
  rfl
end
/-- a turn's slots -/
def I (δ : Pur.Ev) : Prop := ∃ x2 x3 x4 x5 x6 x7 x8 x9, δ = Z x2 x3 x4 x5 x6 x7 x8 x9
theorem turn {x2 x3 x4 x5 x6 x7 x8 x9 : Option Pur.Sl} {k : Int} (hf : Fit S k) (hk : k ≤ 900) : ∃ (δ' : Pur.Ev) (S' : Pur.Pn), (Pur.exs (cal (n + 5)) mk 0 lB (Z x2 x3 x4 x5 x6 x7 x8 x9) S = .ok (.next δ') S' ∨ Pur.exs (cal (n + 5)) mk 0 lB (Z x2 x3 x4 x5 x6 x7 x8 x9) S = .ok (.cont δ') S') ∧ I δ' ∧ Fit S' (k + 17) := by
  obtain ⟨ts, S1, ht, f1, e1⟩ := x_S1 (n := n + 3) (x2 := x2) (x3 := x3) (x4 := x4) (x5 := x5) (x6 := x6) (x7 := x7) (x8 := x8) (x9 := x9) hf (by omega)
  have e2 := x_S2 (n := n + 3) (S := S1) (x2 := x2) (x4 := x4) (x5 := x5) (x6 := x6) (x7 := x7) (x8 := x8) (x9 := x9) ht
  rw [lB, Pur.exs_next e1, Pur.exs_next e2]
  rcases x_S3 (n := n + 3) (S := S1) (x2 := x2) (x3 := vl (Pur.ofInts (tp ts))) (x5 := x5) (x6 := x6) (x7 := x7) (x8 := x8) (x9 := x9) (A := placesOf ts) with ⟨zA, e3⟩ | e3
  rotate_left
  · refine ⟨Z x2 (vl (Pur.ofInts (tp ts))) (vl (pls (placesOf ts))) x5 x6 x7 x8 x9, S1, .inr ?_, ⟨_, _, _, _, _, _, _, _, rfl⟩, f1.up (by omega)⟩
    simp only [Pur.exs]
    rw [Pur.bnd_okE e3]
    rfl
  have h0 : placesOf ts ≠ [] := fun e => by
    have : tp ts ∈ placesOf ts := places_box.mpr ⟨rfl, fun i hi => ⟨ht.tops.nn i hi, Int.le_refl _⟩⟩
    rw [e] at this; cases this
  obtain ⟨P, S4, hP, zP, f4, e4⟩ := x_S4 (n := n + 3) (S := S1) (x2 := x2) (x3 := vl (Pur.ofInts (tp ts))) (x5 := x5) (x6 := x6) (x7 := x7) (x8 := x8) (x9 := x9) h0 zA f1 (by omega)
  have tn : Tn ts (placesOf ts) P := ⟨ht, rfl, zA, hP, zP⟩
  have e5 := x_S5 (n := n) (S := S4) (x2 := x2) (x6 := x6) (x7 := x7) (x8 := x8) (x9 := x9) tn
  have e6 := x_S6 (n := n) (S := S4) (x2 := x2) (x7 := x7) (x8 := x8) (x9 := x9) tn
  have e7 := x_S7 (n := n) (S := S4) (x2 := x2) (x7 := x7) (x8 := x8) (x9 := x9) tn
  have e8 := x_S8 (n := n) (S := S4) (x2 := x2) (x7 := x7) (x8 := x8) (x9 := x9) tn
  have e9 := x_S9 (n := n) (S := S4) (x2 := x2) (x7 := x7) (x8 := x8) (x9 := x9) tn
  obtain ⟨bad, S10, hb, f10, e10⟩ := x_S10 (n := n) (S := S4) (x2 := x2) (x3 := vl (Pur.ofInts (tp ts))) (x4 := vl (pls (placesOf ts))) (x5 := vl (pls P)) (x6 := vl (pls (lawG (downs (placesOf ts) P)))) (x7 := x7) (x8 := x8) (x9 := x9) f4 (by omega)
  obtain ⟨odd, S11, ho, f11, e11⟩ := x_S11 (n := n) (S := S10) (x2 := x2) (x4 := vl (pls (placesOf ts))) (x5 := vl (pls P)) (x6 := vl (pls (lawG (downs (placesOf ts) P)))) (x7 := vl bad) (x8 := x8) (x9 := x9) ht f10 (by omega)
  obtain ⟨y9, e12⟩ := x_S12 (n := n) (S := S11) (x2 := x2) (x4 := vl (pls (placesOf ts))) (x5 := vl (pls P)) (x6 := vl (pls (lawG (downs (placesOf ts) P)))) (x9 := x9) ht hb ho
  refine ⟨Z x2 (vl (Pur.ofInts (tp ts))) (vl (pls (placesOf ts))) (vl (pls P)) (vl (pls (lawG (downs (placesOf ts) P)))) (vl bad) (vl odd) (vl y9), S11, .inl ?_, ⟨_, _, _, _, _, _, _, _, rfl⟩, f11.up (by omega)⟩
  rw [Pur.exs_next e3, Pur.exs_next e4, Pur.exs_next e5, Pur.exs_next e6, Pur.exs_next e7, Pur.exs_next e8, Pur.exs_next e9, Pur.exs_next e10, Pur.exs_next e11, Pur.exs_next e12, Pur.exs_nilE]
theorem turns : ∀ (ds : List Pur.D) (δ : Pur.Ev) (S : Pur.Pn) (k : Int), I δ → Fit S k → k + 17 * ds.length ≤ 900 → ∃ δ' S', Pur.forGo (fun d δ' => Pur.bnd (Pur.ofO (Pur.bindS (.v 2) d δ')) fun δ'' => Pur.exs (cal (n + 5)) mk 0 lB δ'') ds δ S = .ok (.next δ') S' ∧ I δ'
  | [], δ, S, k, h, _, _ => ⟨δ, S, rfl, h⟩
  | d :: ds, δ, S, k, ⟨x2, x3, x4, x5, x6, x7, x8, x9, e⟩, hf, hk => by
    subst e
    rw [List.length_cons] at hk
    obtain ⟨δ1, S1, e1, i1, f1⟩ := turn (n := n) (S := S) (x2 := vl d) (x3 := x3) (x4 := x4) (x5 := x5) (x6 := x6) (x7 := x7) (x8 := x8) (x9 := x9) hf (by omega)
    obtain ⟨δ2, S2, e2, i2⟩ := turns ds δ1 S1 (k + 17) i1 f1 (by omega)
    have st : Pur.bindS (.v 2) d (Z x2 x3 x4 x5 x6 x7 x8 x9) = some (Z (vl d) x3 x4 x5 x6 x7 x8 x9) := rfl
    refine ⟨δ2, S2, ?_, i2⟩
    simp only [Pur.forGo, st, Pur.bnd_some]
    rcases e1 with e1 | e1
    · rw [Pur.bnd_okE e1]; exact e2
    · rw [Pur.bnd_okE e1]; exact e2
/-- the law answers True -/
theorem law_true (cells : List Int) : ∃ S', Pur.exs (cal (n + 5)) mk 0 lawC (Z none none none none none none none none) ⟨0, 0, cells⟩ = .ok (.ret (.bl true)) S' := by
  obtain ⟨δ', S', e, x2, x3, x4, x5, x6, x7, x8, x9, rfl⟩ := turns (n := n) ((List.range 5).map fun (i : Nat) => Pur.D.int (i : Int)) (Z none none none none none none none none) ⟨0, 0, cells⟩ 0 ⟨_, _, _, _, _, _, _, _, rfl⟩ ⟨Int.le_refl _, Int.le_refl _⟩ (by simp)
  have it : Pur.evIS (cal (n + 5)) (.iRng1 (.const (.int 5))) (Z none none none none none none none none) ⟨0, 0, cells⟩ = .ok ((List.range 5).map (fun (i : Nat) => Pur.D.int (i : Int)), Z none none none none none none none none) ⟨0, 0, cells⟩ := by
    unfold Pur.evIS
    have r := Pur.qe_rng (cs := cal (n + 5)) (ρ := Pur.vw (Pur.men (.iRng1 (.const (.int 5)))) (Z none none none none none none none none)) (s := ⟨0, 0, cells⟩) (Pur.qe_const (d := .int 5)) (rng_nat (k := 5) (by omega))
    rw [Pur.bnd_okE r]
    rfl
  refine ⟨S', ?_⟩
  rw [lawC_eq, Pur.exs_next (δ' := Z x2 x3 x4 x5 x6 x7 x8 x9) (s' := S')]
  · exact Pur.exs_ret (Pur.qs_ret Pur.qe_const (Pur.frz_self rfl))
  · simp only [Pur.ex]
    rw [Pur.bnd_okE it]
    exact e
end Lw36

namespace Lw36
open
    PySem PySem.Spec PyProof.Rows L2
theorem hrun (cells : List Int) : ∃ S', Pur.exs (Pur.callN T (fun x => (T.fn x).bind (Pur.compFn T)) (Pur.mkOf (Pur.eiOf er)) 0 (0 + 5)) (Pur.mkOf (Pur.eiOf er)) 0 lawC (none :: some (.val .pen) :: List.replicate (d_law.fn.N.length - 2) none) ⟨0, 0, cells⟩ = .ok (.ret (.bl true)) S' := law_true (n := 0) cells
theorem at_ {w : World} {h : Heap} {K : PySem.W.Frag} {mg : Str → Option Value} {fa : Addr} (X : K.In h) (G : h.Ns mainGlobals mg) (hfa : mg "law" = some (.ref fa)) (c : Pur.SaysP prg (Pur.faOf T) (df.map Pur.Df.dd) ins er [("law", none)] h K) :
    LamX.LawAtS PySem.Challenge.rw_whomtotell_k36_duals_of_places_by_trying w K (L2.CX prg w) (3 + (0 + 5) + 3) 63 "script" mg fa h :=
  Pur.law_at rfl X G hfa c rfl rfl bp_all sc_all kw_all sh_all cov_all ercl errs_ok (dl := d_law) (dp := d__law_pen) (dh := d__law_heard) (by simp [df]) rfl rfl (by simp [df]) rfl rfl (by simp [df]) rfl rfl sh_law sh_pen sh_heard (by kernel_rfl) (by kernel_rfl) ⟨by kernel_rfl, by kernel_rfl, by kernel_rfl⟩ (W := 0) fun cells _ => hrun cells
theorem noex (w : World) (H : Hp) (s : Shared) (e : Value) (s' : Shared) (h : L2.CX prg w [] H s (fun _ _ _ => False) e s') : False := by
  obtain
      ⟨_, _, _, _, _, _, _, _, _, _, _, _, z⟩ := h
  exact z
end Lw36
open
    PySem PySem.W PySem.Calls PyProof.Rows
theorem PySem.Challenge.cw_whomtotell_k36_duals_of_places_by_trying_holds : PySem.Challenge.rw_whomtotell_k36_duals_of_places_by_trying.Holds := by
  w_on; o_law
  refine HandSHeadRun.head_any (r := OpenLaw.row PySem.Challenge.rw_whomtotell_k36_duals_of_places_by_trying) (q := view (OpenLaw.row PySem.Challenge.rw_whomtotell_k36_duals_of_places_by_trying).prog [Lw36.lawAt]) (H := Lw36.hkP) (ob := Lw36.ob) (M := 60000) (loose := Lw36.loose) (d := HandSHeadRun.topDef (OpenLaw.row PySem.Challenge.rw_whomtotell_k36_duals_of_places_by_trying).prog Lw36.lawAt) (kwd := []) Lw36.ob_eq
    (by kernel_rfl) (fun s => by kernel_rfl) Lw36.run (by kernel_rfl) (by kernel_rfl) (by kernel_rfl) (by rfl) (by first | assumption | decide +kernel) (by decide +kernel) ⟨rfl, rfl, rfl, rfl, rfl, by decide +kernel⟩ ?hw ?hc
  case hw => w_witness2
  case hc =>
    refine LamX.walk_ofTsE (l := PySem.Challenge.rw_whomtotell_k36_duals_of_places_by_trying) (n := 63) (k := 3 + (0 + 5) + 3) (x := "script") (CX := fun w => L2.CX Lw36.prg w) rfl (by decide) (by kernel_rfl) ⟨rfl, by decide, by decide⟩ ?F Lw36.noex
    intro w mg fa h Y G hmg0
    obtain ⟨K, KX, c⟩ := Y
    have
        hmg : mg ("law" : PySem.Str) = some (.ref fa) := by
      have e : (HandSHeadRun.topDef (OpenLaw.row PySem.Challenge.rw_whomtotell_k36_duals_of_places_by_trying).prog Lw36.lawAt).name = ("law" : PySem.Str) := by kernel_rfl
      rw [← e]
      exact hmg0
    exact ⟨K, KX, Lw36.at_ KX G hmg c⟩
