import PyProof.Rows.All
import Wide.All
import OpenK.AllK
import Wide.FinOn
import PySem.Challenge.RW_xm0286_01
open PySem PySem.W PyProof.Rows
set_option Elab.async false
set_option maxRecDepth 100000
set_option maxHeartbeats 8000000
set_option linter.unusedSimpArgs false
set_option linter.unusedVariables false
namespace Mine
section
open PySem PySem.W PySem.Calls PyProof.Rows
open scoped Classical

/-- what a Python value of the text is, as plain data; mutable things by their address -/
inductive PV where
  | none
  | bool (b : Bool)
  | int (i : Int)
  | str (s : PySem.Str)
  | tup (l : List PV)
  | val (v : Value)
  | rng (a b c : Int)

mutual
noncomputable def VRel (h : Heap) : PV → Value → Prop
  | .none, v => v = .none
  | .bool b, v => v = .bool b
  | .int i, v => ∃ t, v = .int i t
  | .str s, v => ∃ t, v = .str s t
  | .tup l, v => ∃ a items, v = .ref a ∧ h.IsTuple a items ∧ VRels h l items.toList
  | .val w, v => v = w
  | .rng a b c, v => ∃ r t u w, v = .ref r ∧ IsRange h r a b c t u w
noncomputable def VRels (h : Heap) : List PV → List Value → Prop
  | [], vs => vs = []
  | p :: l, vs => ∃ v r, vs = v :: r ∧ VRel h p v ∧ VRels h l r
end

structure Imm (h h' : Heap) : Prop where
  tup : ∀ a items, h.IsTuple a items → h'.IsTuple a items
  rng : ∀ r a b c t u w, IsRange h r a b c t u w → IsRange h' r a b c t u w

mutual
theorem VRel.mono {h h' : Heap} (i : Imm h h') : ∀ {p : PV} {v : Value}, VRel h p v → VRel h' p v
  | .none, _, x => by simpa only [VRel] using x
  | .bool _, _, x => by simpa only [VRel] using x
  | .int _, _, x => by simpa only [VRel] using x
  | .str _, _, x => by simpa only [VRel] using x
  | .tup l, _, x => by
    simp only [VRel] at x ⊢
    obtain ⟨a, items, e, ht, hr⟩ := x
    exact ⟨a, items, e, i.tup _ _ ht, VRels.mono i hr⟩
  | .val _, _, x => by simpa only [VRel] using x
  | .rng _ _ _, _, x => by
    simp only [VRel] at x ⊢
    obtain ⟨r, t, u, w, e, hr⟩ := x
    exact ⟨r, t, u, w, e, i.rng _ _ _ _ _ _ _ hr⟩
theorem VRels.mono {h h' : Heap} (i : Imm h h') : ∀ {l : List PV} {vs : List Value}, VRels h l vs → VRels h' l vs
  | [], _, x => by simpa only [VRels] using x
  | p :: l, _, x => by
    simp only [VRels] at x ⊢
    obtain ⟨v, r, e, h1, h2⟩ := x
    exact ⟨v, r, e, VRel.mono i h1, VRels.mono i h2⟩
end

theorem VRels.nil {h : Heap} : VRels h [] [] := by simp only [VRels]
theorem VRels.cons {h : Heap} {p : PV} {v : Value} {l : List PV} {r : List Value} (h1 : VRel h p v) (h2 : VRels h l r) : VRels h (p :: l) (v :: r) := by
  simp only [VRels]; exact ⟨_, _, rfl, h1, h2⟩
theorem VRels.length {h : Heap} : ∀ {l : List PV} {vs : List Value}, VRels h l vs → l.length = vs.length
  | [], _, x => by simp only [VRels] at x; subst x; rfl
  | _ :: _, _, x => by
    simp only [VRels] at x
    obtain ⟨v, r, rfl, _, h2⟩ := x
    simp [VRels.length h2]
theorem VRels.append {h : Heap} : ∀ {l l' : List PV} {vs vs' : List Value}, VRels h l vs → VRels h l' vs' → VRels h (l ++ l') (vs ++ vs')
  | [], _, _, _, x, y => by simp only [VRels] at x; subst x; exact y
  | _ :: _, _, _, _, x, y => by
    simp only [VRels] at x
    obtain ⟨v, r, rfl, h1, h2⟩ := x
    exact VRels.cons h1 (VRels.append h2 y)
theorem VRels.get {h : Heap} : ∀ {l : List PV} {vs : List Value} {i : Nat} {p : PV}, VRels h l vs → l[i]? = some p → ∃ v, vs[i]? = some v ∧ VRel h p v
  | [], _, _, _, _, e => by simp at e
  | _ :: _, _, i, _, x, e => by
    simp only [VRels] at x
    obtain ⟨v, r, rfl, h1, h2⟩ := x
    cases i with
    | zero => simp at e; subst e; exact ⟨v, rfl, h1⟩
    | succ i => simp at e; obtain ⟨w, e2, h3⟩ := VRels.get h2 e; exact ⟨w, by simpa using e2, h3⟩
theorem VRels.drop {h : Heap} : ∀ {l : List PV} {vs : List Value} (k : Nat), VRels h l vs → VRels h (l.drop k) (vs.drop k)
  | _, _, 0, x => x
  | [], _, _ + 1, x => by simp only [VRels] at x; subst x; exact VRels.nil
  | _ :: _, _, k + 1, x => by
    simp only [VRels] at x
    obtain ⟨v, r, rfl, _, h2⟩ := x
    exact VRels.drop k h2
theorem VRels.take {h : Heap} : ∀ {l : List PV} {vs : List Value} (k : Nat), VRels h l vs → VRels h (l.take k) (vs.take k)
  | _, _, 0, _ => VRels.nil
  | [], _, _ + 1, x => by simp only [VRels] at x; subst x; exact VRels.nil
  | _ :: _, _, k + 1, x => by
    simp only [VRels] at x
    obtain ⟨v, r, rfl, h1, h2⟩ := x
    exact VRels.cons h1 (VRels.take k h2)
theorem VRels.reverse {h : Heap} : ∀ {l : List PV} {vs : List Value}, VRels h l vs → VRels h l.reverse vs.reverse
  | [], _, x => by simp only [VRels] at x; subst x; exact VRels.nil
  | _ :: _, _, x => by
    simp only [VRels] at x
    obtain ⟨v, r, rfl, h1, h2⟩ := x
    rw [List.reverse_cons, List.reverse_cons]
    exact VRels.append (VRels.reverse h2) (VRels.cons h1 VRels.nil)

/-- keys: ints, tuples of keys, so deep at most -/
noncomputable def keyD : Nat → PV → Prop
  | _, .int _ => True
  | 0, _ => False
  | d + 1, .tup l => ∀ p ∈ l, keyD d p
  | _ + 1, _ => False

theorem keyD_int (d : Nat) (i : Int) : keyD d (.int i) := by cases d <;> simp [keyD]
theorem keyD_tup {d : Nat} {l : List PV} : keyD (d + 1) (.tup l) ↔ ∀ p ∈ l, keyD d p := by simp [keyD]

theorem keyD_cases {d : Nat} {p : PV} (h : keyD d p) : (∃ i, p = .int i) ∨ (∃ d' l, d = d' + 1 ∧ p = .tup l ∧ ∀ q ∈ l, keyD d' q) := by
  cases d with
  | zero => cases p <;> simp_all [keyD]
  | succ d => cases p <;> simp_all [keyD]

mutual
noncomputable def hashPV : PV → Int
  | .int i => hashInt i
  | .tup l => reduceHash (Builtin.Tuple.tupleHashOf (hashPVs l))
  | _ => 0
noncomputable def hashPVs : List PV → List Int
  | [] => []
  | p :: l => hashPV p :: hashPVs l
end
mutual
noncomputable def drawsPV : PV → Nat
  | .int _ => 1
  | .tup l => drawsPVs l + 1
  | _ => 0
noncomputable def drawsPVs : List PV → Nat
  | [] => 0
  | p :: l => drawsPV p + drawsPVs l
end

theorem key_inj {h : Heap} : ∀ (d : Nat) {p q : PV} {v : Value}, keyD d p → keyD d q → VRel h p v → VRel h q v → p = q := by
  intro d
  induction d with
  | zero =>
    intro p q v kp kq hp hq
    rcases keyD_cases kp with ⟨i, rfl⟩ | ⟨d', l, e, _⟩
    · rcases keyD_cases kq with ⟨j, rfl⟩ | ⟨d', l, e, _⟩
      · simp only [VRel] at hp hq
        obtain ⟨t, rfl⟩ := hp
        obtain ⟨u, e⟩ := hq
        injection e with e1; rw [e1]
      · cases e
    · cases e
  | succ d ih =>
    intro p q v kp kq hp hq
    have lists : ∀ (l m : List PV) (vs : List Value), (∀ q ∈ l, keyD d q) → (∀ q ∈ m, keyD d q) → VRels h l vs → VRels h m vs → l = m := by
      intro l
      induction l with
      | nil =>
        intro m vs _ _ h1 h2
        cases m with
        | nil => rfl
        | cons y m => simp only [VRels] at h1 h2; subst h1; obtain ⟨_, _, e, _⟩ := h2; cases e
      | cons x l ihl =>
        intro m vs k1 k2 h1 h2
        simp only [VRels] at h1
        obtain ⟨v, r, rfl, a1, a2⟩ := h1
        cases m with
        | nil => simp only [VRels] at h2; cases h2
        | cons y m =>
          simp only [VRels] at h2
          obtain ⟨v', r', e, b1, b2⟩ := h2
          injection e with e1 e2; subst e1 e2
          rw [ih (k1 x (by simp)) (k2 y (by simp)) a1 b1, ihl m r (fun q hq => k1 q (by simp [hq])) (fun q hq => k2 q (by simp [hq])) a2 b2]
    rcases keyD_cases kp with ⟨i, rfl⟩ | ⟨d', l, e, rfl, kl⟩
    · rcases keyD_cases kq with ⟨j, rfl⟩ | ⟨d', l, e, rfl, kl⟩
      · simp only [VRel] at hp hq
        obtain ⟨t, rfl⟩ := hp
        obtain ⟨u, e⟩ := hq
        injection e with e1; rw [e1]
      · simp only [VRel] at hp hq
        obtain ⟨t, rfl⟩ := hp
        obtain ⟨a, _, e, _⟩ := hq
        cases e
    · cases e
      rcases keyD_cases kq with ⟨j, rfl⟩ | ⟨d', m, e, rfl, km⟩
      · simp only [VRel] at hp hq
        obtain ⟨t, rfl⟩ := hq
        obtain ⟨a, _, e, _⟩ := hp
        cases e
      · cases e
        simp only [VRel] at hp hq
        obtain ⟨a, items, rfl, ht, hr⟩ := hp
        obtain ⟨b, items', e, ht', hr'⟩ := hq
        injection e with e; subst e
        obtain ⟨o, ho, _, n, hd⟩ := ht
        obtain ⟨o', ho', _, n', hd'⟩ := ht'
        rw [ho] at ho'; cases ho'
        rw [hd] at hd'; injection hd' with hd'; subst hd'
        rw [lists l m _ kl km hr hr']
end
section
open PySem PySem.W PySem.Calls PyProof.Rows
open scoped Classical
open PySem.SeqAt

theorem VRels.mem {h : Heap} : ∀ {l : List PV} {vs : List Value} {v : Value}, VRels h l vs → v ∈ vs → ∃ p ∈ l, VRel h p v
  | [], _, _, x, m => by simp only [VRels] at x; subst x; cases m
  | p :: l, _, v, x, m => by
    simp only [VRels] at x
    obtain ⟨v', r, rfl, h1, h2⟩ := x
    rcases List.mem_cons.mp m with rfl | m
    · exact ⟨p, by simp, h1⟩
    · obtain ⟨q, hq, hr⟩ := VRels.mem h2 m
      exact ⟨q, by simp [hq], hr⟩

theorem drawsPVs_snoc (done : List PV) (q : PV) : drawsPVs (done ++ [q]) = drawsPVs done + drawsPV q := by
  induction done with
  | nil => simp [drawsPVs]
  | cons y done ih => simp [drawsPVs, ih, Nat.add_assoc]
theorem hashPVs_eq (l : List PV) : hashPVs l = l.map hashPV := by
  induction l with
  | nil => simp [hashPVs]
  | cons p l ih => simp [hashPVs, ih]

section
variable {prog : Program} {w : World} {E : Value → Shared → Prop} {s : Shared}

theorem key_pyHash : ∀ (d : Nat) {A : Around} {s : Shared} {p : PV} {v : Value} {Q : Int → Shared → Prop}, A.units + d < cLine → keyD d p → VRel s.heap p v →
    Q (hashPV p) { s with toks := s.toks + drawsPV p } → wpAny (model prog w) A (pyHash v) Q E s := by
  intro d
  induction d with
  | zero =>
    intro A s p v Q hu k hr h
    rcases keyD_cases k with ⟨i, rfl⟩ | ⟨d', l, e, _⟩
    · simp only [VRel] at hr; obtain ⟨t, rfl⟩ := hr
      simp only [hashPV, drawsPV] at h
      exact wpAny_pyHash_int h
    · cases e
  | succ d ih =>
    intro A s p v Q hu k hr h
    rcases keyD_cases k with ⟨i, rfl⟩ | ⟨d', l, e, rfl, kl⟩
    · simp only [VRel] at hr; obtain ⟨t, rfl⟩ := hr
      simp only [hashPV, drawsPV] at h
      exact wpAny_pyHash_int h
    cases e
    simp only [VRel] at hr
    obtain ⟨a, items, rfl, ht, hrs⟩ := hr
    simp only [hashPV, drawsPV] at h
    have hT := ht.typeIs
    obtain ⟨o, ho, _, n, hd⟩ := ht
    unfold pyHash
    refine wpAny_bind (wpAny_cRoomFor_or (.inr (by omega)) ?_)
    refine wpAny_bind (wpAny_specialOf hT F.slot_tuple_hash.lookup ?_)
    show wpAny _ _ (if (some (Value.builtin "tuple.__hash__") == some Value.none) = true then _ else _) Q E s
    rw [if_neg (by rw [beq_builtin_none]; exact Bool.false_ne_true)]
    refine wpAny_bind (wpAny_specialOf hT F.slot_tuple_hash.lookup ?_)
    show wpAny _ _ (callSpecialIfBoundUnlessNone? (.ref a) "__hash__" _ >>= _) Q E s
    refine wpAny_bind (wpAny_callSpecialIfBoundUnlessNone?_slot hT F.slot_tuple_hash (wpAny_call_entry F.slot_tuple_hash hT F.entry_tuple_hash ?_ (F.args_tuple_hash_1 _)))
    show wpAny _ _ (Builtin.Tuple.tupleItemsOf (.ref a) >>= _) _ _ s
    refine wpAny_bind (wpAny_tupleItemsOf ho hd ?_)
    refine wpAny_bind ?_
    rw [← Array.forIn_toList]
    refine wpAny_forIn_list _
      (fun rest (b : Array Int) s' => ∃ done left, l = done ++ left ∧ VRels s.heap left rest ∧ b.toList = done.map hashPV ∧ s' = { s with toks := s.toks + drawsPVs done })
      _ ?_ ?_ _ _ ⟨[], l, rfl, hrs, rfl, by simp [drawsPVs]⟩
    · rintro x rest b s' ⟨done, left, rfl, hl, hb, rfl⟩
      cases left with
      | nil => simp only [VRels] at hl; cases hl
      | cons q left =>
        simp only [VRels] at hl
        obtain ⟨v', r', e, h1, h2⟩ := hl
        injection e with e1 e2; subst e1 e2
        refine wpAny_bind (ih (A := A.in1) (s := { s with toks := s.toks + drawsPVs done }) (by show A.units + 1 + d < cLine; omega) (kl q (by simp)) h1 ?_)
        have hdr := drawsPVs_snoc done q
        have fin : ∃ done' left', done ++ q :: left = done' ++ left' ∧ VRels s.heap left' rest ∧ (b.push (hashPV q)).toList = done'.map hashPV ∧
            ({ s with toks := s.toks + drawsPVs done + drawsPV q } : Shared) = { s with toks := s.toks + drawsPVs done' } :=
          ⟨done ++ [q], left, by simp, h2, by simp [hb], by rw [hdr, Nat.add_assoc]⟩
        first
          | exact wpAny_pure fin
          | exact wpAny_bind (wpAny_pure (wpAny_pure fin))
    · rintro b s' ⟨done, left, rfl, hl, hb, rfl⟩
      cases left with
      | cons q left => simp only [VRels] at hl; obtain ⟨_, _, e, _⟩ := hl; cases e
      | nil =>
      rw [List.append_nil] at h
      show wpAny _ _ (retInt (Builtin.Tuple.tupleHashOf b.toList)) _ _ _
      rw [hb]
      refine wpAny_ret_mkInt ?_
      show wpAny _ _ (if (decide (-(2 : Int) ^ 63 ≤ Builtin.Tuple.tupleHashOf (done.map hashPV)) && decide (Builtin.Tuple.tupleHashOf (done.map hashPV) < 2 ^ 63)) = true then _ else _) Q E _
      rw [hashPVs_eq] at h
      unfold reduceHash at h
      by_cases hr : (decide (-(2 : Int) ^ 63 ≤ Builtin.Tuple.tupleHashOf (done.map hashPV)) && decide (Builtin.Tuple.tupleHashOf (done.map hashPV) < 2 ^ 63)) = true
      · rw [if_pos hr]
        rw [if_pos hr] at h
        exact wpAny_pure (by simpa [Nat.add_assoc] using h)
      · rw [if_neg hr]
        rw [if_neg hr] at h
        exact wpAny_bind (wpAny_rule (wpAny_pure (by simpa [Nat.add_assoc] using h)))

theorem list_all_eq : ∀ (l m : List PV), ((List.range (min l.length m.length)).all (fun j => decide (l[j]? = m[j]?)) && l.length == m.length) = decide (l = m) := by
  intro l m
  by_cases h : l = m
  · subst h; simp
  · rw [decide_eq_false h]
    cases hb : ((List.range (min l.length m.length)).all (fun j => decide (l[j]? = m[j]?)) && l.length == m.length) with
    | false => rfl
    | true =>
      exfalso
      simp only [Bool.and_eq_true, List.all_eq_true, List.mem_range, decide_eq_true_eq, beq_iff_eq] at hb
      refine h (List.ext_getElem? fun i => ?_)
      by_cases hi : i < l.length
      · exact hb.1 i (by omega)
      · rw [List.getElem?_eq_none (by omega), List.getElem?_eq_none (by omega)]

theorem key_eqAt : ∀ (d : Nat) {A : Around} {s : Shared} {p q : PV} {v u : Value}, A.units + d < cLine → keyD d p → keyD d q → VRel s.heap p v → VRel s.heap q u →
    EqAt A s v u (decide (p = q)) := by
  intro d
  induction d with
  | zero =>
    intro A s p q v u hu kp kq hp hq
    rcases keyD_cases kp with ⟨i, rfl⟩ | ⟨d', l, e, _⟩
    · rcases keyD_cases kq with ⟨j, rfl⟩ | ⟨d', l, e, _⟩
      · simp only [VRel] at hp hq
        obtain ⟨t, rfl⟩ := hp
        obtain ⟨t', rfl⟩ := hq
        have e : (i == j) = decide (PV.int i = PV.int j) := by
          by_cases h : i = j
          · subst h; simp
          · have : ¬ PV.int i = PV.int j := fun e => h (by injection e)
            simp [h]
        rw [← e]; exact EqAt.int_int i t j t'
      · cases e
    · cases e
  | succ d ih =>
    intro A s p q v u hu kp kq hp hq
    rcases keyD_cases kp with ⟨i, rfl⟩ | ⟨d', l, e, rfl, kl⟩
    · rcases keyD_cases kq with ⟨j, rfl⟩ | ⟨d', l, e, rfl, kl⟩
      · simp only [VRel] at hp hq
        obtain ⟨t, rfl⟩ := hp
        obtain ⟨t', rfl⟩ := hq
        have e : (i == j) = decide (PV.int i = PV.int j) := by
          by_cases h : i = j
          · subst h; simp
          · have : ¬ PV.int i = PV.int j := fun e => h (by injection e)
            simp [h]
        rw [← e]; exact EqAt.int_int i t j t'
      · simp only [VRel] at hp hq
        obtain ⟨t, rfl⟩ := hp
        obtain ⟨b, items, rfl, ht, _⟩ := hq
        rw [decide_eq_false (fun e => PV.noConfusion e)]
        exact EqAt.int_tuple i t ht (by omega)
    · cases e
      rcases keyD_cases kq with ⟨j, rfl⟩ | ⟨d', m, e, rfl, km⟩
      · simp only [VRel] at hp hq
        obtain ⟨t, rfl⟩ := hq
        obtain ⟨b, items, rfl, ht, _⟩ := hp
        rw [decide_eq_false (fun e => PV.noConfusion e)]
        exact EqAt.tuple_int j t ht (by omega)
      · cases e
        have kp' : keyD (d + 1) (.tup l) := keyD_tup.mpr kl
        have kq' : keyD (d + 1) (.tup m) := keyD_tup.mpr km
        have hp' := hp
        have hq' := hq
        simp only [VRel] at hp hq
        obtain ⟨a, its, rfl, hta, hra⟩ := hp
        obtain ⟨b, its', rfl, htb, hrb⟩ := hq
        by_cases hab : a = b
        · subst hab
          rw [decide_eq_true (key_inj (d + 1) kp' kq' hp' hq')]
          exact EqAt.same _
        · have hc : decide (PV.tup l = PV.tup m) = decide (l = m) := by
            by_cases h : l = m
            · subst h; simp
            · rw [decide_eq_false h, decide_eq_false (fun e => h (by injection e))]
          rw [hc, ← list_all_eq]
          refine EqAt.of_refs hab ?_
          have l1 : l.length = its.size := by rw [← Array.length_toList]; exact hra.length
          have l2 : m.length = its'.size := by rw [← Array.length_toList]; exact hrb.length
          have hR := RcAt.tuples (A := A) (e := fun j => decide (l[j]? = m[j]?)) hta htb (by omega) (fun j h1 h2 => by
            obtain ⟨x, hx⟩ : ∃ x, l[j]? = some x := ⟨l[j]'(by omega), List.getElem?_eq_getElem _⟩
            obtain ⟨y, hy⟩ : ∃ y, m[j]? = some y := ⟨m[j]'(by omega), List.getElem?_eq_getElem _⟩
            obtain ⟨vx, ex, rx⟩ := hra.get hx
            obtain ⟨vy, ey, ry⟩ := hrb.get hy
            have ex' : its[j] = vx := by
              rw [Array.getElem?_toList, Array.getElem?_eq_getElem h1] at ex; injection ex
            have ey' : its'[j] = vy := by
              rw [Array.getElem?_toList, Array.getElem?_eq_getElem h2] at ey; injection ey
            rw [ex', ey', hx, hy]
            have := ih (A := A.in1) (s := s) (p := x) (q := y) (v := vx) (u := vy) (by show A.units + 1 + d < cLine; omega) (kl x (List.mem_of_getElem? hx)) (km y (List.mem_of_getElem? hy)) rx ry
            have e : decide (some x = some y) = decide (x = y) := by
              by_cases h : x = y
              · subst h; simp
              · simp [h]
            rw [e]; exact this)
          rw [← l1, ← l2] at hR
          exact hR

theorem key_quiet : ∀ (d n : Nat) {A : Around} {s : Shared} {p : PV} {v : Value} {Q : Bool → Shared → Prop}, d ≤ n → keyD d p → VRel s.heap p v → Q true s →
    wpAny (model prog w) A (eqIsQuiet n v) Q E s := by
  intro d
  induction d with
  | zero =>
    intro n A s p v Q hn k hr h
    rcases keyD_cases k with ⟨i, rfl⟩ | ⟨d', l, e, _⟩
    · simp only [VRel] at hr; obtain ⟨t, rfl⟩ := hr
      rw [eqIsQuiet_byValue n rfl]; exact wpAny_pure h
    · cases e
  | succ d ih =>
    intro n A s p v Q hn k hr h
    rcases keyD_cases k with ⟨i, rfl⟩ | ⟨d', l, e, rfl, kl⟩
    · simp only [VRel] at hr; obtain ⟨t, rfl⟩ := hr
      rw [eqIsQuiet_byValue n rfl]; exact wpAny_pure h
    cases e
    simp only [VRel] at hr
    obtain ⟨a, items, rfl, ht, hrs⟩ := hr
    have hT := ht.typeIs
    obtain ⟨o, ho, _, n', hd⟩ := ht
    cases n with
    | zero => omega
    | succ n =>
    unfold eqIsQuiet
    refine wpAny_bind (wpAny_specialOf hT F.slot_tuple_eq.lookup ?_)
    show wpAny _ _ (isInstance (.ref a) (.type "tuple") >>= _) _ _ s
    refine wpAny_bind (wpAny_isInstance hT isSubtype_tuple_tuple ?_)
    simp only [Bool.not_true, Bool.false_eq_true, if_false]
    refine wpAny_bind (wpAny_seqItems ho hd ?_)
    refine wpAny_bind ?_
    show wpAny _ _ (forIn items _ _) _ _ s
    rw [← Array.forIn_toList]
    refine wpAny_forIn_list _ (fun rest r s' => r.1 = none ∧ s' = s ∧ ∃ left, (∀ q ∈ left, keyD d q) ∧ VRels s.heap left rest) _ ?_ ?_ _ _ ⟨rfl, rfl, l, kl, hrs⟩
    · rintro v rest r s' ⟨hr, rfl, left, hk, hl⟩
      cases left with
      | nil => simp only [VRels] at hl; cases hl
      | cons q left =>
      simp only [VRels] at hl
      obtain ⟨v', r', e, h1, h2⟩ := hl
      injection e with e1 e2; subst e1 e2
      refine wpAny_bind (ih n (by omega) (hk q (by simp)) h1 ?_)
      simp only [Bool.not_true, Bool.false_eq_true, if_false]
      exact wpAny_pure ⟨rfl, rfl, left, fun q hq => hk q (by simp [hq]), h2⟩
    · rintro ⟨r1, r2⟩ s' ⟨hr, rfl, _⟩
      simp only at hr
      subst hr
      exact wpAny_pure h
end

theorem Imm.of_sameBut {h h' : Heap} {d : Addr} (hs : Heap.SameBut d h h') (h1 : ∀ items, ¬ h.IsTuple d items) (h2 : ∀ a b c t u w, ¬ IsRange h d a b c t u w) : Imm h h' where
  tup := fun b items hb => by
    by_cases e : b = d
    · subst e; exact absurd hb (h1 items)
    · obtain ⟨o', ho', r⟩ := hb; exact ⟨o', (hs.2 b e).trans ho', r⟩
  rng := fun r a b c t u w hr => by
    by_cases e : r = d
    · subst e; exact absurd hr (h2 a b c t u w)
    · exact (hs.2 r e).trans hr

/-- what a dict keyed by tuples asks of its keys -/
noncomputable def keyKind (prog : Program) (w : World) : HeapKind prog w (List PV) where
  is := fun h ks a => keyD 3 (.tup ks) ∧ VRel h (.tup ks) (.ref a)
  hash := fun ks => hashPV (.tup ks)
  draws := fun ks => drawsPV (.tup ks)
  room := fun A => A.units + 3 < cLine
  inj := fun hx hy => by injection key_inj 3 hx.1 hy.1 hx.2 hy.2
  keeps := fun x ho hd hs => ⟨x.1, x.2.mono (Imm.of_sameBut hs (fun items hb => by
      obtain ⟨o', ho', _, n, hd'⟩ := hb
      rw [ho] at ho'; cases ho'
      rw [hd] at hd'; cases hd') (fun a b c t u w hr => by
      rw [hr] at ho; cases ho; cases hd))⟩
  pyHash := fun hu hk h => key_pyHash 3 hu hk.1 hk.2 h
  eqBool := fun {A E s x y a b Q} hu hx hy h => by
    have := key_eqAt 3 (A := A) hu hx.1 hy.1 hx.2 hy.2
    have e : decide (PV.tup x = PV.tup y) = decide (x = y) := by
      by_cases h : x = y
      · subst h; simp
      · rw [decide_eq_false h, decide_eq_false (fun e => h (by injection e))]
    rw [e] at this
    exact this prog w E Q h
  quiet := fun hk h => key_quiet 3 8 (by omega) hk.1 hk.2 h
end
section
open PySem PySem.W PySem.Calls PyProof.Rows
open scoped Classical

/-- what stands still during the call: the text, the world, the heap at the call, the state at the call, the globals -/
structure Ctx where
  prog : Program
  w : World
  hb : Heap
  s0 : Shared
  Gl : PySem.Str → Option PV
  FD : Addr → Option (Int → Option PV)
  FL : Addr → Option (List PV)
  K : Frag
  KT : Addr
  Fn : Addr → Option FuncData
  attrs : List PySem.Str
  meth : PySem.Str → Option Addr

inductive AObj where
  | list (xs : List PV)
  | idict (m : Int → Option PV) (n : Nat)
  | tdict (m : List PV → Option PV) (n : Nat)
  | inst (C d : Addr)
  | ns (fs : PySem.Str → Option PV) (n : Nat)

abbrev AH := Addr → Option AObj
abbrev Loc := PySem.Str → Option PV
noncomputable def AH.set (H : AH) (a : Addr) (o : AObj) : AH := fun b => if b = a then some o else H b
noncomputable def Loc.set (m : Loc) (x : PySem.Str) (p : PV) : Loc := fun y => if y = x then some p else m y

noncomputable def OV (h : Heap) : Option PV → Option Value → Prop
  | none, v => v = none
  | some p, v => ∃ u, v = some u ∧ VRel h p u

theorem OV.mono {h h' : Heap} (i : Imm h h') {p : Option PV} {v : Option Value} (x : OV h p v) : OV h' p v := by
  cases p with
  | none => exact x
  | some p => obtain ⟨u, e, r⟩ := x; exact ⟨u, e, r.mono i⟩

noncomputable def ORel (C : Ctx) (h : Heap) (a : Addr) : AObj → Prop
  | .list xs => ∃ items n, h.get? a = some { cls := .type "list", data := .seq items n } ∧ VRels h xs items.toList
  | .idict m n => ∃ kvs, h.DictOf (intKind C.prog C.w) a kvs ∧ kvs.length ≤ n ∧ ∀ k, OV h (m k) (valueAt kvs k)
  | .tdict m n => ∃ xs, h.DictOfH (keyKind C.prog C.w) a xs ∧ xs.length ≤ n ∧ ∀ k, OV h (m k) ((atKey xs k).map (·.2))
  | .inst D d => ∃ sl, h.get? a = some ⟨.ref D, some d, .plain, sl⟩
  | .ns fs n => ∃ es e, h.get? a = some (dictOf es e) ∧ es.length ≤ n ∧ (∀ e ∈ es, ∃ x t, e.key = .str x t) ∧ ∀ x, OV h (fs x) ((es.find? (·.key.isStr x)).map (·.val))

theorem ORel.obj {C : Ctx} {h : Heap} {a : Addr} {o : AObj} (x : ORel C h a o) : ∃ ob, h.get? a = some ob := by
  cases o with
  | list xs => obtain ⟨_, _, e, _⟩ := x; exact ⟨_, e⟩
  | idict m n => obtain ⟨_, ⟨ob, _, _, e, _⟩, _⟩ := x; exact ⟨ob, e⟩
  | tdict m n => obtain ⟨_, ⟨ob, _, _, e, _⟩, _⟩ := x; exact ⟨ob, e⟩
  | inst D d => obtain ⟨_, e⟩ := x; exact ⟨_, e⟩
  | ns fs n => obtain ⟨_, _, e, _⟩ := x; exact ⟨_, e⟩

theorem ORel.not_tup {C : Ctx} {h : Heap} {a : Addr} {o : AObj} (x : ORel C h a o) (items : Array Value) : ¬ h.IsTuple a items := by
  rintro ⟨ob, e, hc, n, hd⟩
  cases o with
  | list xs => obtain ⟨_, _, e', _⟩ := x; rw [e] at e'; cases e'; simp at hc
  | idict m n => obtain ⟨_, ⟨ob', _, _, e', hc', _⟩, _⟩ := x; rw [e] at e'; cases e'; rw [hc'.1] at hc; simp at hc
  | tdict m n => obtain ⟨_, ⟨ob', _, _, e', hc', _⟩, _⟩ := x; rw [e] at e'; cases e'; rw [hc'.1] at hc; simp at hc
  | inst D d => obtain ⟨_, e'⟩ := x; rw [e] at e'; cases e'; cases hc
  | ns fs n => obtain ⟨_, _, e', _⟩ := x; rw [e] at e'; cases e'; simp at hc
theorem ORel.not_rng {C : Ctx} {h : Heap} {r : Addr} {o : AObj} (x : ORel C h r o) (a b c : Int) (t u w : Tok) : ¬ IsRange h r a b c t u w := by
  intro e
  unfold IsRange at e
  cases o with
  | list xs => obtain ⟨_, _, e', _⟩ := x; rw [e] at e'; simp at e'
  | idict m n => obtain ⟨_, ⟨ob', _, _, e', hc', _⟩, _⟩ := x; rw [e] at e'; cases e'; simp [Obj.ExactDict] at hc'
  | tdict m n => obtain ⟨_, ⟨ob', _, _, e', hc', _⟩, _⟩ := x; rw [e] at e'; cases e'; simp [Obj.ExactDict] at hc'
  | inst D d => obtain ⟨_, e'⟩ := x; rw [e] at e'; cases e'
  | ns fs n => obtain ⟨_, _, e', _⟩ := x; rw [e] at e'; simp [dictOf] at e'

theorem ORel.mono {C : Ctx} {h h' : Heap} {a : Addr} {o : AObj} (x : ORel C h a o) (i : Imm h h') (e : ∀ ob, h.get? a = some ob → h'.get? a = some ob) : ORel C h' a o := by
  cases o with
  | list xs => obtain ⟨items, n, ho, hr⟩ := x; exact ⟨items, n, e _ ho, hr.mono i⟩
  | idict m n =>
    obtain ⟨f, ⟨ob, es, ep, ho, r⟩, hl, hf⟩ := x
    exact ⟨f, ⟨ob, es, ep, e _ ho, r⟩, hl, fun k => (hf k).mono i⟩
  | tdict m n =>
    obtain ⟨xs, ⟨ob, es, ep, ho, hx, hd, hl, hk, hn⟩, hlen, hf⟩ := x
    exact ⟨xs, ⟨ob, es, ep, e _ ho, hx, hd, hl, fun y hy => ⟨(hk y hy).1, (hk y hy).2.mono i⟩, hn⟩, hlen, fun k => (hf k).mono i⟩
  | inst D d => obtain ⟨sl, ho⟩ := x; exact ⟨sl, e _ ho⟩
  | ns fs n => obtain ⟨es, n, ho, hl, hk, hf⟩ := x; exact ⟨es, n, e _ ho, hl, hk, fun k => (hf k).mono i⟩

structure St (C : Ctx) (H : AH) (s : Shared) : Prop where
  keep : ∀ b o, C.hb.get? b = some o → s.heap.get? b = some o
  rep : ∀ a o, H a = some o → ORel C s.heap a o
  new : ∀ a o, H a = some o → C.hb.get? a = none ∧ a ≠ sysModules
  gens : s.gens = C.s0.gens
  drawn : s.drawn = C.s0.drawn
  os : s.os = C.s0.os

theorem St.list {C : Ctx} {H : AH} {s : Shared} (S : St C H s) {a : Addr} {xs : List PV} (e : H a = some (.list xs)) : ∃ items, s.heap.IsList a items ∧ VRels s.heap xs items.toList :=
  let ⟨items, n, ho, hr⟩ := S.rep a _ e; ⟨items, ⟨_, ho, rfl, n, rfl⟩, hr⟩

structure Stp (W : Addr → Prop) (H : AH) (h : Heap) (H' : AH) (h' : Heap) : Prop where
  imm : Imm h h'
  frm : ∀ a o, h.get? a = some o → H a = none → ¬ W a → h'.get? a = some o
  dom : ∀ a, (h.get? a).isSome = true → ¬ W a → H a = none → H' a = none
  live : ∀ a, (h.get? a).isSome = true → ¬ W a → (h'.get? a).isSome = true

abbrev NoW : Addr → Prop := fun _ => False

theorem Imm.refl (h : Heap) : Imm h h := ⟨fun _ _ x => x, fun _ _ _ _ _ _ _ x => x⟩
theorem Imm.trans {h₁ h₂ h₃ : Heap} (x : Imm h₁ h₂) (y : Imm h₂ h₃) : Imm h₁ h₃ := ⟨fun _ _ z => y.tup _ _ (x.tup _ _ z), fun _ _ _ _ _ _ _ z => y.rng _ _ _ _ _ _ _ (x.rng _ _ _ _ _ _ _ z)⟩
theorem Imm.of_keeps {h h' : Heap} (k : ∀ b o, h.get? b = some o → h'.get? b = some o) : Imm h h' :=
  ⟨fun _ _ ⟨o, ho, r⟩ => ⟨o, k _ _ ho, r⟩, fun _ _ _ _ _ _ _ x => k _ _ x⟩
theorem Stp.refl (W : Addr → Prop) (H : AH) (h : Heap) : Stp W H h H h := ⟨Imm.refl h, fun _ _ e _ _ => e, fun _ _ _ e => e, fun _ e _ => e⟩
theorem Stp.trans {W : Addr → Prop} {H₁ H₂ H₃ : AH} {h₁ h₂ h₃ : Heap} (x : Stp W H₁ h₁ H₂ h₂) (y : Stp W H₂ h₂ H₃ h₃) : Stp W H₁ h₁ H₃ h₃ where
  imm := x.imm.trans y.imm
  frm := fun a o e n w => y.frm a o (x.frm a o e n w) (x.dom a (by rw [e]; rfl) w n) w
  dom := fun a e w n => y.dom a (x.live a e w) w (x.dom a e w n)
  live := fun a e w => y.live a (x.live a e w) w
theorem Stp.widen {W W' : Addr → Prop} {H H' : AH} {h h' : Heap} (x : Stp W H h H' h') (k : ∀ a, W a → W' a) : Stp W' H h H' h' :=
  ⟨x.imm, fun a o e n w => x.frm a o e n fun q => w (k a q), fun a e w => x.dom a e fun q => w (k a q), fun a e w => x.live a e fun q => w (k a q)⟩
theorem Stp.of_keeps {W : Addr → Prop} {H : AH} {h h' : Heap} (k : ∀ b o, h.get? b = some o → h'.get? b = some o) : Stp W H h H h' where
  imm := Imm.of_keeps k
  frm := fun a o e _ _ => k a o e
  dom := fun _ _ _ e => e
  live := fun a e _ => by
    obtain ⟨o, ho⟩ := Option.isSome_iff_exists.mp e
    rw [k a o ho]; rfl

theorem St.lt {C : Ctx} {H : AH} {s : Shared} (S : St C H s) {a : Addr} {o : AObj} (e : H a = some o) : a < s.heap.objs.size := let ⟨_, h⟩ := (S.rep a o e).obj; Heap.lt_size h
theorem St.fresh {C : Ctx} {H : AH} {s : Shared} (S : St C H s) : H s.heap.objs.size = none := by
  cases e : H s.heap.objs.size with
  | none => rfl
  | some o => exact absurd (S.lt e) (Nat.lt_irrefl _)
theorem St.hb_none {C : Ctx} {H : AH} {s : Shared} (S : St C H s) {a : Addr} (e : s.heap.get? a = none) : C.hb.get? a = none := by
  cases q : C.hb.get? a with
  | none => rfl
  | some x => rw [S.keep a x q] at e; cases e
theorem St.hb_fresh {C : Ctx} {H : AH} {s : Shared} (S : St C H s) : C.hb.get? s.heap.objs.size = none := S.hb_none (Heap.get?_none_of_le (Nat.le_refl _))
theorem St.two {C : Ctx} {H : AH} {s : Shared} (S : St C H s) (hl : C.hb.NoLimit) : 2 < s.heap.objs.size := by
  obtain ⟨mc, ⟨o, _, _, ho, _⟩, _⟩ := hl
  exact Heap.lt_size (S.keep _ _ ho)
theorem St.not_mods {C : Ctx} {H : AH} {s : Shared} (S : St C H s) (hl : C.hb.NoLimit) {a : Addr} (h : s.heap.objs.size ≤ a) : a ≠ sysModules := by
  have := S.two hl
  have h3 : 2 < a := Nat.lt_of_lt_of_le this h
  intro e
  have h1 : sysModules = 1 := rfl
  rw [e, h1] at h3
  exact absurd h3 (by decide)

theorem St.toks {C : Ctx} {H : AH} {s : Shared} (S : St C H s) (t : Nat) : St C H { s with toks := t } := ⟨S.keep, S.rep, S.new, S.gens, S.drawn, S.os⟩
theorem St.keeps {C : Ctx} {H : AH} {s : Shared} (S : St C H s) {h' : Heap} {t : Nat} (k : ∀ b o, s.heap.get? b = some o → h'.get? b = some o) : St C H { s with heap := h', toks := t } :=
  ⟨fun b o e => k b o (S.keep b o e), fun a o e => (S.rep a o e).mono (Imm.of_keeps k) (k a), S.new, S.gens, S.drawn, S.os⟩

theorem push_keeps {h : Heap} (o : Obj) : ∀ b o', h.get? b = some o' → (h.push o).get? b = some o' := fun _ _ e => Heap.get?_push_of_some o e

/-- a thing newly made, taken into the abstract heap -/
theorem St.alloc {C : Ctx} {H : AH} {s : Shared} (S : St C H s) {h' : Heap} {t : Nat} {a : Addr} {o : AObj} (k : ∀ b o, s.heap.get? b = some o → h'.get? b = some o)
    (hn : s.heap.get? a = none) (hb : a ≠ sysModules) (r : ORel C h' a o) : St C (H.set a o) { s with heap := h', toks := t } ∧ Stp NoW H s.heap (H.set a o) h' := by
  refine ⟨⟨fun b o e => k b o (S.keep b o e), fun b o' e => ?_, fun b o' e => ?_, S.gens, S.drawn, S.os⟩, ⟨Imm.of_keeps k, fun b o e _ _ => k b o e, fun b e _ n => ?_, fun b e _ => ?_⟩⟩
  · unfold AH.set at e
    by_cases hba : b = a
    · subst hba; rw [if_pos rfl] at e; cases e; exact r
    · rw [if_neg hba] at e; exact (S.rep b o' e).mono (Imm.of_keeps k) (k b)
  · unfold AH.set at e
    by_cases hba : b = a
    · subst hba
      refine ⟨?_, hb⟩
      cases q : C.hb.get? b with
      | none => rfl
      | some x => rw [S.keep b x q] at hn; cases hn
    · rw [if_neg hba] at e; exact S.new b o' e
  · unfold AH.set
    rw [if_neg (by rintro rfl; rw [hn] at e; cases e)]; exact n
  · obtain ⟨o, ho⟩ := Option.isSome_iff_exists.mp e
    rw [k b o ho]; rfl

/-- a thing of the abstract heap changed -/
theorem St.change {C : Ctx} {H : AH} {s : Shared} (S : St C H s) {h' : Heap} {t : Nat} {a : Addr} {o₀ o : AObj} (e₀ : H a = some o₀) (hs : Heap.SameBut a s.heap h')
    (r : Imm s.heap h' → ORel C h' a o) : St C (H.set a o) { s with heap := h', toks := t } ∧ Stp NoW H s.heap (H.set a o) h' := by
  have r₀ := S.rep a o₀ e₀
  have i : Imm s.heap h' := Imm.of_sameBut hs r₀.not_tup r₀.not_rng
  have ra := r i
  refine ⟨⟨fun b ob e => ?_, fun b o' e => ?_, fun b o' e => ?_, S.gens, S.drawn, S.os⟩, ⟨i, fun b ob e n _ => ?_, fun b e _ n => ?_, fun b e _ => ?_⟩⟩
  · refine (hs.2 b ?_).trans (S.keep b ob e)
    rintro rfl
    rw [(S.new _ _ e₀).1] at e; cases e
  · unfold AH.set at e
    by_cases hba : b = a
    · subst hba; rw [if_pos rfl] at e; cases e; exact ra
    · rw [if_neg hba] at e; exact (S.rep b o' e).mono i fun ob h => (hs.2 b hba).trans h
  · unfold AH.set at e
    by_cases hba : b = a
    · subst hba; exact S.new _ _ e₀
    · rw [if_neg hba] at e; exact S.new b o' e
  · refine (hs.2 b ?_).trans e
    rintro rfl; rw [e₀] at n; cases n
  · unfold AH.set
    rw [if_neg (by rintro rfl; rw [e₀] at n; cases n)]; exact n
  · by_cases hba : b = a
    · subst hba; obtain ⟨ob, h⟩ := ra.obj; rw [h]; rfl
    · rw [hs.2 b hba]; exact e

/-- the frame of a def at work -/
structure FRel (C : Ctx) (env : Env) (H : AH) (h : Heap) (m : Loc) : Prop where
  kind : env.scope.kind = .function
  glob : env.globals = mainGlobals
  blt : env.builtins = builtinsNs
  lo : C.hb.get? env.locals = none
  lH : H env.locals = none
  ns : ∃ mm, h.Ns env.locals mm ∧ ∀ x p, m x = some p → env.kindOf x = some .local → ∃ v, mm x = some v ∧ VRel h p v
  names : ∀ x p, m x = some p → env.kindOf x = some .local ∨
    ((env.kindOf x = some .cell ∨ (env.kindOf x = some .free ∧ (x == ("__classdict__" : PySem.Str)) = false)) ∧ ∃ c v, env.cells.lookup x = some c ∧ h.IsCell c (some v) ∧ VRel h p v)
  cell : ∀ x c, env.cells.lookup x = some c → H c = none ∧ C.hb.get? c = none ∧ c ≠ env.locals ∧ ∃ v, h.IsCell c v
  apart : ∀ x y c, env.cells.lookup x = some c → env.cells.lookup y = some c → x = y
  call : ∀ x, env.kindOf x = some .cell → ∃ c, env.cells.lookup x = some c

noncomputable def WE (env : Env) : Addr → Prop := fun a => a = env.locals ∨ ∃ x, env.cells.lookup x = some a

theorem FRel.stp {C : Ctx} {env : Env} {W : Addr → Prop} {H H' : AH} {h h' : Heap} {m : Loc} (F : FRel C env H h m) (x : Stp W H h H' h') (hw : ∀ a, WE env a → ¬ W a) : FRel C env H' h' m where
  kind := F.kind
  glob := F.glob
  blt := F.blt
  lo := F.lo
  lH := x.dom _ (by obtain ⟨mm, ⟨o, _, _, ho, _⟩, _⟩ := F.ns; rw [ho]; rfl) (hw _ (.inl rfl)) F.lH
  ns := by
    obtain ⟨mm, ⟨o, es, ep, ho, r⟩, q⟩ := F.ns
    exact ⟨mm, ⟨o, es, ep, x.frm _ _ ho F.lH (hw _ (.inl rfl)), r⟩, fun y p e k => let ⟨v, h1, h2⟩ := q y p e k; ⟨v, h1, h2.mono x.imm⟩⟩
  names := fun y p e => (F.names y p e).imp id fun ⟨k, c, v, hc, ⟨o, ho, hd⟩, hr⟩ =>
    ⟨k, c, v, hc, ⟨o, x.frm _ _ ho (F.cell y c hc).1 (hw _ (.inr ⟨y, hc⟩)), hd⟩, hr.mono x.imm⟩
  cell := fun y c hc => by
    obtain ⟨h1, h2, h3, v, o, ho, hd⟩ := F.cell y c hc
    exact ⟨x.dom c (by rw [ho]; rfl) (hw _ (.inr ⟨y, hc⟩)) h1, h2, h3, v, o, x.frm _ _ ho h1 (hw _ (.inr ⟨y, hc⟩)), hd⟩
  apart := F.apart
  call := F.call

theorem FRel.stp0 {C : Ctx} {env : Env} {H H' : AH} {h h' : Heap} {m : Loc} (F : FRel C env H h m) (x : Stp NoW H h H' h') : FRel C env H' h' m := F.stp x fun _ _ => id

/-- room for so many frames -/
structure Room (A : Around) (n : Nat) : Prop where
  hd : A.handled = none
  dp : A.depth + n < recursionLimit
  un : A.units + 10 * n + 100 < cLine

/-- what the written part of the heap at the call says -/
structure Good (C : Ctx) (mg mb : PySem.Str → Option Value) : Prop where
  g : C.hb.Ns mainGlobals mg
  b : C.hb.Ns builtinsNs mb
  nolimit : C.hb.NoLimit
  gl : ∀ x p, C.Gl x = some p → ∃ v, (mg x = some v ∨ (mg x = none ∧ mb x = some v)) ∧ VRel C.hb p v
  fd : ∀ a m, C.FD a = some m → (a == sysModules) = false ∧ ∃ f, C.hb.MapOf (intKind C.prog C.w) a f ∧ ∀ k, OV C.hb (m k) (f k)
  fl : ∀ a xs, C.FL a = some xs → ∃ items, C.hb.IsList a items ∧ VRels C.hb xs items.toList

  X : C.K.In C.hb
  kcls : hasDictIn C.K C.KT = true ∧ plainOver C.K C.KT = true ∧ makesIn C.K C.KT = true ∧ keepIn C.K (.ref C.KT) = true ∧ findIn C.K (.ref C.KT) "__setattr__" = some (some (.builtin "object.__setattr__")) ∧
    plainGet C.K C.KT "x" = true
  kattr : ∀ x ∈ C.attrs, findIn C.K (.ref C.KT) x = some none
  kmeth : ∀ x f, C.meth x = some f → findIn C.K (.ref C.KT) x = some (some (.ref f)) ∧ isFn C.K (.ref f) = true
  fn : ∀ f fd, C.Fn f = some fd → C.hb.get? f = some { cls := .type "function", data := .func fd } ∧ C.hb.CodeRec fd.code fd.qualname ∧ fd.globals = mainGlobals ∧ fd.builtins = builtinsNs ∧ fd.closure = []

abbrev NoE : Value → Shared → Prop := fun _ _ => False

noncomputable def PostE (C : Ctx) (H : AH) (s : Shared) (Q : PV → AH → Prop) : Value → Shared → Prop :=
  fun v s' => ∃ p H', VRel s'.heap p v ∧ St C H' s' ∧ Stp NoW H s.heap H' s'.heap ∧ Q p H'

/-- what a call of f gives, over any state that bears H -/
noncomputable def CallP (C : Ctx) (n : Nat) (f : Value) (args : List PV) (H : AH) (Q : PV → AH → Prop) : Prop :=
  ∀ (A : Around) (s : Shared) (vs : List Value), Room A n → St C H s → VRels s.heap args vs → wpAny (model C.prog C.w) A (call f vs) (PostE C H s Q) NoE s
end
section
open PySem PySem.W PySem.Calls PyProof.Rows
open scoped Classical

/-- binary operators on abstract values -/
inductive awBin : Operator → PV → PV → AH → (PV → AH → Prop) → Prop
  | addI {x y : Int} {H : AH} {Q : PV → AH → Prop} (q : Q (.int (x + y)) H) : awBin .Add (.int x) (.int y) H Q
  | subI {x y : Int} {H : AH} {Q : PV → AH → Prop} (q : Q (.int (x - y)) H) : awBin .Sub (.int x) (.int y) H Q
  | divI {x y : Int} {H : AH} {Q : PV → AH → Prop} (h : 0 < y ∧ y < 1000000) (q : Q (.int (x / y)) H) : awBin .FloorDiv (.int x) (.int y) H Q
  | modI {x y : Int} {H : AH} {Q : PV → AH → Prop} (h : 0 < y) (q : Q (.int (x % y)) H) : awBin .Mod (.int x) (.int y) H Q
  | addS {x y : PySem.Str} {H : AH} {Q : PV → AH → Prop} (h : x.length + y.length ≤ 16000000) (q : Q (.str (x ++ y)) H) : awBin .Add (.str x) (.str y) H Q
  | addT {x y : List PV} {H : AH} {Q : PV → AH → Prop} (h : x.length + y.length ≤ 1000) (q : Q (.tup (x ++ y)) H) : awBin .Add (.tup x) (.tup y) H Q
  | addL {a b : Addr} {x y : List PV} {H : AH} {Q : PV → AH → Prop} (ea : H a = some (.list x)) (eb : H b = some (.list y)) (h : x.length + y.length ≤ 1000)
      (q : ∀ c, H c = none → Q (.val (.ref c)) (H.set c (.list (x ++ y)))) : awBin .Add (.val (.ref a)) (.val (.ref b)) H Q

/-- comparisons -/
inductive awCmp (C : Ctx) : CmpOp → PV → PV → AH → (PV → AH → Prop) → Prop
  | eqI {x y : Int} {H : AH} {Q : PV → AH → Prop} (q : Q (.bool (decide (x = y))) H) : awCmp C .Eq (.int x) (.int y) H Q
  | neI {x y : Int} {H : AH} {Q : PV → AH → Prop} (q : Q (.bool (decide (x ≠ y))) H) : awCmp C .NotEq (.int x) (.int y) H Q
  | ltI {x y : Int} {H : AH} {Q : PV → AH → Prop} (q : Q (.bool (decide (x < y))) H) : awCmp C .Lt (.int x) (.int y) H Q
  | leI {x y : Int} {H : AH} {Q : PV → AH → Prop} (q : Q (.bool (decide (x ≤ y))) H) : awCmp C .LtE (.int x) (.int y) H Q
  | gtI {x y : Int} {H : AH} {Q : PV → AH → Prop} (q : Q (.bool (decide (y < x))) H) : awCmp C .Gt (.int x) (.int y) H Q
  | geI {x y : Int} {H : AH} {Q : PV → AH → Prop} (q : Q (.bool (decide (y ≤ x))) H) : awCmp C .GtE (.int x) (.int y) H Q
  | eqS {x y : PySem.Str} {H : AH} {Q : PV → AH → Prop} (q : Q (.bool (decide (x = y))) H) : awCmp C .Eq (.str x) (.str y) H Q
  | neS {x y : PySem.Str} {H : AH} {Q : PV → AH → Prop} (q : Q (.bool (decide (x ≠ y))) H) : awCmp C .NotEq (.str x) (.str y) H Q
  | inD {k : Int} {a : Addr} {f : Int → Option PV} {j : Nat} {H : AH} {Q : PV → AH → Prop} (ea : H a = some (.idict f j)) (q : Q (.bool (f k).isSome) H) : awCmp C .In (.int k) (.val (.ref a)) H Q
  | inF {k : Int} {a : Addr} {f : Int → Option PV} {H : AH} {Q : PV → AH → Prop} (ea : C.FD a = some f) (q : Q (.bool (f k).isSome) H) : awCmp C .In (.int k) (.val (.ref a)) H Q
  | niT {ks : List PV} {a : Addr} {f : List PV → Option PV} {j : Nat} {H : AH} {Q : PV → AH → Prop} (ea : H a = some (.tdict f j)) (hk : keyD 3 (.tup ks)) (q : Q (.bool (!(f ks).isSome)) H) : awCmp C .NotIn (.tup ks) (.val (.ref a)) H Q

section
variable {C : Ctx} {A : Around} {H : AH} {s : Shared} {Q : PV → AH → Prop} {n : Nat}

theorem postE_same {p : PV} {v : Value} {t : Nat} (S : St C H s) (r : VRel s.heap p v) (q : Q p H) : PostE C H s Q v { s with toks := t } :=
  ⟨p, H, r, S.toks t, Stp.refl _ _ _, q⟩
theorem postE_here {p : PV} {v : Value} (S : St C H s) (r : VRel s.heap p v) (q : Q p H) : PostE C H s Q v s :=
  ⟨p, H, r, S, Stp.refl _ _ _, q⟩
theorem postE_keeps {p : PV} {v : Value} {t : Nat} {h' : Heap} (S : St C H s) (k : ∀ b o, s.heap.get? b = some o → h'.get? b = some o) (r : VRel h' p v) (q : Q p H) :
    PostE C H s Q v { s with heap := h', toks := t } :=
  ⟨p, H, r, S.keeps k, Stp.of_keeps k, q⟩
/-- a new list -/
theorem postE_list {xs : List PV} {items : Array Value} {t : Nat} {h' : Heap} {a : Addr} (hl : C.hb.NoLimit) (S : St C H s) (k : ∀ b o, s.heap.get? b = some o → h'.get? b = some o) (hn : s.heap.objs.size ≤ a)
    (r : h'.get? a = some { cls := .type "list", data := .seq items }) (rs : VRels h' xs items.toList) (q : ∀ c, H c = none → Q (.val (.ref c)) (H.set c (.list xs))) : PostE C H s Q (.ref a) { s with heap := h', toks := t } := by
  have hna : s.heap.get? a = none := Heap.get?_none_of_le hn
  have hHa : H a = none := by
    cases e : H a with
    | none => rfl
    | some o => have := S.lt e; exact absurd (Nat.lt_of_lt_of_le this hn) (Nat.lt_irrefl _)
  obtain ⟨S', st⟩ := S.alloc (o := .list xs) (t := t) k hna (S.not_mods hl hn) ⟨items, 0, r, rs⟩
  exact ⟨_, _, by simp only [VRel], S', st, q a hHa⟩

theorem isTup_iff {h : Heap} {a : Addr} {items : Array Value} : IsTup h a items ↔ h.IsTuple a items := Iff.rfl

theorem fdiv_pos {x y : Int} (h : 0 < y) : x.fdiv y = x / y := Int.fdiv_eq_ediv_of_nonneg x (Int.le_of_lt h)
theorem fmod_pos {x y : Int} (h : 0 < y) : x.fmod y = x % y := Int.fmod_eq_emod_of_nonneg x (Int.le_of_lt h)

theorem IsTuple.pushed (h : Heap) (items : Array Value) : (h.push { cls := .type "tuple", data := .seq items }).IsTuple h.objs.size items := ⟨_, Heap.get?_push_size _ rfl, rfl, _, rfl⟩
theorem IsList.pushed (h : Heap) (items : Array Value) : (h.push { cls := .type "list", data := .seq items }).IsList h.objs.size items := ⟨_, Heap.get?_push_size _ rfl, rfl, _, rfl⟩

theorem add_tuples0 {M : World} {prog : Program} {A : Around} {E : Value → Shared → Prop} {t b : Addr} {vs ws : Array Value} {Q : Value → Shared → Prop} (ht : s.heap.IsTuple t vs) (hb : s.heap.IsTuple b ws)
    (h0 : vs = #[] → Q (.ref b) s) (h1 : ws = #[] → Q (.ref t) s)
    (h2 : Q (.ref s.heap.objs.size) { s with heap := s.heap.push { cls := .type "tuple", data := .seq (vs ++ ws) } })
    (hsz : vs.size + ws.size ≤ sizeLine) :
    wpAny (model prog M) A (binaryOp .Add (.ref t) (.ref b)) Q E s := by
  obtain ⟨⟨cls, dd, data, sl⟩, ho, hc, n, hd⟩ := id ht
  obtain ⟨⟨cls2, dd2, data2, sl2⟩, ho2, hc2, n2, hd2⟩ := id hb
  simp only at hc hd hc2 hd2
  subst hc hd hc2 hd2
  by_cases hv : vs = #[]
  · exact concat_meets ⟨_, ho, rfl⟩ ⟨_, ho2, rfl⟩ noFill_tuple_add seq_tuple_add PySem.F.slot_tuple_add PySem.F.entry_tuple_add (PySem.F.args_tuple_add_2 _ _)
      (tuple_addW0 t b vs ws n n2 dd dd2 sl sl2 (by simp [hv])) ⟨ho, ho2, h0 hv⟩
  · by_cases hw : ws = #[]
    · exact concat_meets ⟨_, ho, rfl⟩ ⟨_, ho2, rfl⟩ noFill_tuple_add seq_tuple_add PySem.F.slot_tuple_add PySem.F.entry_tuple_add (PySem.F.args_tuple_add_2 _ _)
        (tuple_addW1 t b vs ws n n2 dd dd2 sl sl2 (by simpa using hv) (by simp [hw])) ⟨ho, ho2, h1 hw⟩
    · exact concat_meets ⟨_, ho, rfl⟩ ⟨_, ho2, rfl⟩ noFill_tuple_add seq_tuple_add PySem.F.slot_tuple_add PySem.F.entry_tuple_add (PySem.F.args_tuple_add_2 _ _)
        (tuple_addW2 t b vs ws n n2 dd dd2 sl sl2 (by simpa using hv) (by simpa using hw) hsz) ⟨ho, ho2, h2⟩

theorem add_lists0 {M : World} {prog : Program} {A : Around} {E : Value → Shared → Prop} {t b : Addr} {vs ws : Array Value} {Q : Value → Shared → Prop} (ht : s.heap.IsList t vs) (hb : s.heap.IsList b ws)
    (h2 : Q (.ref s.heap.objs.size) { s with heap := s.heap.push { cls := .type "list", data := .seq (vs ++ ws) } })
    (hsz : vs.size + ws.size ≤ sizeLine) :
    wpAny (model prog M) A (binaryOp .Add (.ref t) (.ref b)) Q E s := by
  obtain ⟨⟨cls, dd, data, sl⟩, ho, hc, n, hd⟩ := id ht
  obtain ⟨⟨cls2, dd2, data2, sl2⟩, ho2, hc2, n2, hd2⟩ := id hb
  simp only at hc hd hc2 hd2
  subst hc hd hc2 hd2
  exact concat_meets ⟨_, ho, rfl⟩ ⟨_, ho2, rfl⟩ noFill_list_add seq_list_add PySem.F.slot_list_add PySem.F.entry_list_add (PySem.F.args_list_add_2 _ _) (list_addW t b vs ws n n2 dd dd2 sl sl2 hsz) ⟨ho, ho2, h2⟩

theorem len_rels {h : Heap} {l : List PV} {vs : Array Value} (r : VRels h l vs.toList) : l.length = vs.size := by rw [← Array.length_toList]; exact r.length
theorem vI {h : Heap} {i : Int} {t} : VRel h (.int i) (.int i t) := ⟨t, rfl⟩
theorem vS {h : Heap} {x : PySem.Str} {t} : VRel h (.str x) (.str x t) := ⟨t, rfl⟩
theorem vB {h : Heap} {b : Bool} : VRel h (.bool b) (.bool b) := rfl
theorem vN {h : Heap} : VRel h .none .none := rfl
theorem vT {h : Heap} {l : List PV} {a : Addr} {items : Array Value} (t : h.IsTuple a items) (r : VRels h l items.toList) : VRel h (.tup l) (.ref a) := ⟨a, items, rfl, t, r⟩
theorem isK {prog : Program} {w : World} {k : Int} {t} : (intKind prog w).is k (.int k t) = true := by simp [intKind, Value.isInt]
theorem vV {h : Heap} {v : Value} : VRel h (.val v) v := rfl
theorem line_is : sizeLine = 16777216 := by decide

theorem bin_sound {op : Operator} {a b : PV} {va vb : Value} (hl : C.hb.NoLimit) (S : St C H s) (ra : VRel s.heap a va) (rb : VRel s.heap b vb) (h : awBin op a b H Q) :
    wpAny (model C.prog C.w) A (binaryOp op va vb) (PostE C H s Q) NoE s := by
  cases h with
  | addI q => obtain ⟨t, rfl⟩ := ra; obtain ⟨u, rfl⟩ := rb; exact PyProof.Rows.add_int (postE_same S vI q)
  | subI q => obtain ⟨t, rfl⟩ := ra; obtain ⟨u, rfl⟩ := rb; exact PyProof.Rows.sub_int' (postE_same S vI q)
  | divI h q =>
    obtain ⟨t, rfl⟩ := ra; obtain ⟨u, rfl⟩ := rb
    refine PyProof.Rows.floordiv_int (Int.ne_of_gt h.1) ?_ (.inl (PyProof.noPylong_small (by clear q; omega)))
    rw [fdiv_pos h.1]
    exact postE_same S vI q
  | modI h q =>
    obtain ⟨t, rfl⟩ := ra; obtain ⟨u, rfl⟩ := rb
    refine PyProof.Rows.mod_int' (Int.ne_of_gt h) ?_
    rw [fmod_pos h]
    exact postE_same S vI q
  | addS h q => obtain ⟨t, rfl⟩ := ra; obtain ⟨u, rfl⟩ := rb; exact PySem.SB.add (fun t' k => postE_same S vS q) (Nat.le_trans h (by rw [line_is]; decide))
  | @addT x y _ _ h q =>
    obtain ⟨a, vs, rfl, hta, hra⟩ := ra
    obtain ⟨b, ws, rfl, htb, hrb⟩ := rb
    refine add_tuples0 hta htb (fun e => ?_) (fun e => ?_) ?_ (by rw [← len_rels hra, ← len_rels hrb]; exact Nat.le_trans h (by rw [line_is]; decide))
    · have : x = [] := List.eq_nil_of_length_eq_zero (by rw [len_rels hra, e]; rfl)
      subst this
      exact postE_here S (vT htb hrb) q
    · have : y = [] := List.eq_nil_of_length_eq_zero (by rw [len_rels hrb, e]; rfl)
      subst this
      rw [List.append_nil] at q
      exact postE_here S (vT hta hra) q
    · refine postE_keeps S (push_keeps _) (vT (IsTuple.pushed _ _) ?_) q
      rw [Array.toList_append]
      exact (hra.append hrb).mono (Imm.of_keeps (push_keeps _))
  | addL ea eb h q =>
    obtain rfl := ra; obtain rfl := rb
    obtain ⟨vs, hla, hra⟩ := S.list ea
    obtain ⟨ws, hlb, hrb⟩ := S.list eb
    refine add_lists0 hla hlb ?_ (by rw [← len_rels hra, ← len_rels hrb]; exact Nat.le_trans h (by rw [line_is]; decide))
    refine postE_list (t := s.toks) hl S (push_keeps _) (Nat.le_refl _) (Heap.get?_push_size _ rfl) ?_ q
    rw [Array.toList_append]
    exact (hra.append hrb).mono (Imm.of_keeps (push_keeps _))

theorem keyKind_is {ks : List PV} {a : Addr} : (keyKind C.prog C.w).is s.heap ks a = (keyD 3 (.tup ks) ∧ VRel s.heap (.tup ks) (.ref a)) := rfl

theorem OV.isSome {h : Heap} {p : Option PV} {v : Option Value} (x : OV h p v) : v.isSome = p.isSome := by
  cases p with
  | none => rw [show v = none from x]; rfl
  | some p => obtain ⟨u, rfl, _⟩ := x; rfl

theorem beq_dec {α : Type} [BEq α] [LawfulBEq α] (x y : α) [Decidable (x = y)] : decide (x = y) = (x == y) := by by_cases e : x = y <;> simp [e]
theorem bne_dec {α : Type} [BEq α] [LawfulBEq α] (x y : α) [Decidable (x ≠ y)] : decide (x ≠ y) = (x != y) := by by_cases e : x = y <;> simp [e]
theorem Room.unit {A : Around} {n : Nat} (R : Room A n) : A.in1.units + 3 < cLine := by have := R.un; show A.units + 1 + 3 < cLine; omega
theorem cmp_sound {op : CmpOp} {a b : PV} {va vb : Value} {mg mb : PySem.Str → Option Value} (G : Good C mg mb) (R : Room A n) (S : St C H s) (ra : VRel s.heap a va) (rb : VRel s.heap b vb) (h : awCmp C op a b H Q) :
    wpAny (model C.prog C.w) A (compareOp op va vb) (PostE C H s Q) NoE s := by
  cases h with
  | @eqI x y _ _ q => obtain ⟨t, rfl⟩ := ra; obtain ⟨u, rfl⟩ := rb; exact PyProof.Rows.eq_int (beq_dec x y ▸ postE_here S vB q)
  | @neI x y _ _ q => obtain ⟨t, rfl⟩ := ra; obtain ⟨u, rfl⟩ := rb; exact PyProof.Rows.ne_int (bne_dec x y ▸ postE_here S vB q)
  | ltI q => obtain ⟨t, rfl⟩ := ra; obtain ⟨u, rfl⟩ := rb; exact PyProof.Rows.lt_int (postE_here S vB q)
  | leI q => obtain ⟨t, rfl⟩ := ra; obtain ⟨u, rfl⟩ := rb; exact PyProof.Rows.le_int (postE_here S vB q)
  | gtI q => obtain ⟨t, rfl⟩ := ra; obtain ⟨u, rfl⟩ := rb; exact PyProof.Rows.gt_int (postE_here S vB q)
  | geI q => obtain ⟨t, rfl⟩ := ra; obtain ⟨u, rfl⟩ := rb; exact PyProof.Rows.ge_int (postE_here S vB q)
  | @eqS x y _ _ q => obtain ⟨t, rfl⟩ := ra; obtain ⟨u, rfl⟩ := rb; exact PyProof.Rows.eq_str (beq_dec x y ▸ postE_here S vB q)
  | @neS x y _ _ q => obtain ⟨t, rfl⟩ := ra; obtain ⟨u, rfl⟩ := rb; exact PyProof.Rows.ne_str (bne_dec x y ▸ postE_here S vB q)
  | @inD k a f _ _ _ ea q =>
    obtain ⟨t, rfl⟩ := ra; obtain rfl := rb
    obtain ⟨kvs, hd, _, hf⟩ := S.rep _ _ ea
    refine wpAny_in_of (knd := intKind C.prog C.w) (k := k) isK (by rw [beq_eq_false_iff_ne]; exact (S.new _ _ ea).2) hd.mapOf ?_
    rw [(hf k).isSome]
    exact postE_same S vB q
  | @inF k a m _ _ ea q =>
    obtain ⟨t, rfl⟩ := ra; obtain rfl := rb
    obtain ⟨h1, f, hm, hf⟩ := G.fd a m ea
    have hm' : s.heap.MapOf (intKind C.prog C.w) a f := let ⟨o, es, ep, ho, r⟩ := hm; ⟨o, es, ep, S.keep _ _ ho, r⟩
    refine wpAny_in_of (knd := intKind C.prog C.w) (k := k) isK h1 hm' ?_
    rw [(hf k).isSome]
    exact postE_same S vB q
  | @niT ks a f _ _ _ ea hk q =>
    obtain rfl := rb
    obtain ⟨xs, hd, _, hf⟩ := S.rep _ _ ea
    have ra' := ra
    obtain ⟨b, items, rfl, _⟩ := ra
    refine wpAny_notIn_heap (knd := keyKind C.prog C.w) (k := ks) R.unit ⟨hk, ra'⟩ (by rw [beq_eq_false_iff_ne]; exact (S.new _ _ ea).2) hd ?_
    have e := (hf ks).isSome
    rw [Option.isSome_map] at e
    rw [e]
    exact postE_same S vB q
end
end
section
open PySem PySem.W PySem.Calls PyProof.Rows
open scoped Classical

/-- an item at an index, from behind too -/
noncomputable def itemAt (l : List PV) (k : Int) : Option PV := if 0 ≤ k then l[k.toNat]? else if 0 ≤ k + l.length then l[(k + l.length).toNat]? else none

inductive awItem (C : Ctx) : PV → PV → AH → (PV → AH → Prop) → Prop
  | tup {l : List PV} {k : Int} {p : PV} {H : AH} {Q : PV → AH → Prop} (hb : -1000000 < k ∧ k < 1000000) (ep : itemAt l k = some p) (q : Q p H) : awItem C (.tup l) (.int k) H Q
  | lst {a : Addr} {l : List PV} {k : Int} {p : PV} {H : AH} {Q : PV → AH → Prop} (ea : H a = some (.list l)) (hb : -1000000 < k ∧ k < 1000000) (ep : itemAt l k = some p) (q : Q p H) : awItem C (.val (.ref a)) (.int k) H Q
  | dic {a : Addr} {m : Int → Option PV} {j : Nat} {k : Int} {p : PV} {H : AH} {Q : PV → AH → Prop} (ea : H a = some (.idict m j)) (ep : m k = some p) (q : Q p H) : awItem C (.val (.ref a)) (.int k) H Q
  | fix {a : Addr} {m : Int → Option PV} {k : Int} {p : PV} {H : AH} {Q : PV → AH → Prop} (ea : C.FD a = some m) (ep : m k = some p) (q : Q p H) : awItem C (.val (.ref a)) (.int k) H Q
  | key {a : Addr} {m : List PV → Option PV} {j : Nat} {ks : List PV} {p : PV} {H : AH} {Q : PV → AH → Prop} (ea : H a = some (.tdict m j)) (hk : keyD 3 (.tup ks)) (ep : m ks = some p) (q : Q p H) : awItem C (.val (.ref a)) (.tup ks) H Q

inductive awSlice (C : Ctx) : PV → PV → PV → PV → AH → (PV → AH → Prop) → Prop
  | upto {a : Addr} {y : Int} {l : List PV} {H : AH} {Q : PV → AH → Prop} (hl : H a = some (.list l) ∨ C.FL a = some l) (hb : 0 ≤ y ∧ l.length ≤ 100000) (q : ∀ c, H c = none → Q (.val (.ref c)) (H.set c (.list (l.take y.toNat)))) : awSlice C (.val (.ref a)) .none (.int y) .none H Q
  | run {a : Addr} {x y : Int} {l : List PV} {H : AH} {Q : PV → AH → Prop} (ea : H a = some (.list l)) (hb : 0 ≤ x ∧ x ≤ y ∧ y ≤ l.length ∧ l.length ≤ 100000) (q : ∀ c, H c = none → Q (.val (.ref c)) (H.set c (.list ((l.drop x.toNat).take (y.toNat - x.toNat))))) : awSlice C (.val (.ref a)) (.int x) (.int y) .none H Q
  | rev {a : Addr} {l : List PV} {H : AH} {Q : PV → AH → Prop} (ea : H a = some (.list l)) (hb : l.length ≤ 100000) (q : ∀ c, H c = none → Q (.val (.ref c)) (H.set c (.list l.reverse))) : awSlice C (.val (.ref a)) .none .none (.int (-1)) H Q
  | tup {l : List PV} {x : Int} {H : AH} {Q : PV → AH → Prop} (hb : 0 ≤ x ∧ x ≤ l.length ∧ l.length ≤ 100000) (q : Q (.tup (l.drop x.toNat)) H) : awSlice C (.tup l) (.int x) .none .none H Q

section
variable {C : Ctx} {A : Around} {H : AH} {s : Shared} {Q : PV → AH → Prop} {n : Nat}

theorem VRels.itemAt {h : Heap} {l : List PV} {items : Array Value} {k : Int} {p : PV} (r : VRels h l items.toList) (e : itemAt l k = some p) :
    ∃ j v, seqIndex? k items.size = some j ∧ items[j]? = some v ∧ VRel h p v ∧ ((0 ≤ k ∧ j = k.toNat) ∨ (k < 0 ∧ -(items.size : Int) ≤ k ∧ j = (k + items.size).toNat)) := by
  have hl : l.length = items.size := by rw [← Array.length_toList]; exact r.length
  unfold Mine.itemAt at e
  by_cases h0 : 0 ≤ k
  · rw [if_pos h0] at e
    obtain ⟨v, hv, hr⟩ := r.get e
    have hlt := (List.getElem?_eq_some_iff.mp e).1
    refine ⟨k.toNat, v, ?_, by simpa using hv, hr, .inl ⟨h0, rfl⟩⟩
    simp only [seqIndex?]
    rw [if_neg (show ¬ k < 0 by omega), if_pos (by simp only [Bool.and_eq_true, decide_eq_true_eq]; omega)]
  · rw [if_neg h0] at e
    by_cases h1 : 0 ≤ k + l.length
    · rw [if_pos h1] at e
      obtain ⟨v, hv, hr⟩ := r.get e
      rw [hl] at hv h1
      refine ⟨(k + items.size).toNat, v, ?_, by simpa using hv, hr, .inr ⟨by omega, by omega, rfl⟩⟩
      simp only [seqIndex?]
      rw [if_pos (show k < 0 by omega), if_pos (by simp only [Bool.and_eq_true, decide_eq_true_eq]; omega)]
    · rw [if_neg h1] at e; cases e

theorem subscripted_ops (slice : PySem.Expr) (o i : Value) : ∃ ops, subscripted slice false o i = operate ops (getItem o i) := by
  cases slice with
  | Slice lo hi st p => cases st <;> exact ⟨_, rfl⟩
  | _ => exact ⟨_, rfl⟩

theorem tail_gen {prog : Program} {w : World} {E : Value → Shared → Prop} {s : Shared} {value slice : PySem.Expr} {o i : Value} {T id : String} {Q : Value → Shared → Prop} (hT : s.TypeIs o T)
    (hl : typeLookup (.type T) "__getitem__" = pure (some (.builtin id))) (hg : wpAny (model prog w) A (getItem o i) Q E s) : wpAny (model prog w) A (subscriptTail value slice o i) Q E s := by
  obtain ⟨ops, e⟩ := subscripted_ops slice o i
  exact tail_any hT hl hg e

theorem item_sound {o i : PV} {vo vi : Value} {value slice : PySem.Expr} {mg mb : PySem.Str → Option Value} (G : Good C mg mb) (R : Room A n) (S : St C H s) (ro : VRel s.heap o vo) (ri : VRel s.heap i vi) (h : awItem C o i H Q) :
    wpAny (model C.prog C.w) A (subscriptTail value slice vo vi) (PostE C H s Q) NoE s := by
  cases h with
  | tup hb ep q =>
    obtain ⟨t, rfl⟩ := ri
    obtain ⟨a, items, rfl, ht, hr⟩ := ro
    obtain ⟨j, v, hj, hv, hrv, _⟩ := hr.itemAt ep
    exact tail_gen ht.typeIs PySem.F.slot_tuple_getitem.lookup (PyProof.Rows.getItem_tuple (isTup_iff.mpr ht) (by clear ep q; omega) (by clear ep q; omega) hj hv (postE_here S hrv q))
  | lst ea hb ep q =>
    obtain ⟨t, rfl⟩ := ri
    obtain rfl := ro
    obtain ⟨items, hl, hr⟩ := S.list ea
    obtain ⟨j, v, hj, hv, hrv, hc⟩ := hr.itemAt ep
    refine tail_gen hl.typeIs PySem.F.slot_list_getitem.lookup ?_
    rcases hc with ⟨h0, e⟩ | ⟨h0, h1, e⟩
    · subst e
      exact wpAny_getItem_list hl h0 (by clear ep q ea; omega) hv (postE_here S hrv q)
    · subst e
      exact wpAny_getItem_list_neg hl h0 h1 (by clear ep q ea; omega) hv (postE_here S hrv q)
  | @dic a m j k p _ _ ea ep q =>
    obtain ⟨t, rfl⟩ := ri
    obtain rfl := ro
    obtain ⟨kvs, hd, _, hf⟩ := S.rep _ _ ea
    have hk := hf k
    rw [ep] at hk
    obtain ⟨v, hv, hrv⟩ := hk
    exact tail_gen hd.typeIs slot_dict_getitem.lookup (wpAny_getItem_of (knd := intKind C.prog C.w) (k := k) isK hd.mapOf hv (postE_same S hrv q))
  | @fix a m k p _ _ ea ep q =>
    obtain ⟨t, rfl⟩ := ri
    obtain rfl := ro
    obtain ⟨_, f, hm, hf⟩ := G.fd a m ea
    have hm' : s.heap.MapOf (intKind C.prog C.w) a f := let ⟨o, es, ep, ho, r⟩ := hm; ⟨o, es, ep, S.keep _ _ ho, r⟩
    have hk := hf k
    rw [ep] at hk
    obtain ⟨v, hv, hrv⟩ := hk
    exact tail_gen hm'.typeIs slot_dict_getitem.lookup (wpAny_getItem_of (knd := intKind C.prog C.w) (k := k) isK hm' hv (postE_same S (hrv.mono (Imm.of_keeps S.keep)) q))
  | @key a m j ks p _ _ ea hk ep q =>
    obtain rfl := ro
    obtain ⟨xs, hd, _, hf⟩ := S.rep _ _ ea
    have hkk := hf ks
    rw [ep] at hkk
    obtain ⟨v, hv, hrv⟩ := hkk
    obtain ⟨pr, hpr, e⟩ := Option.map_eq_some_iff.mp hv
    have ri' := ri
    obtain ⟨b, items, rfl, _⟩ := ri
    refine tail_gen hd.typeIs slot_dict_getitem.lookup (wpAny_getItem_heap (knd := keyKind C.prog C.w) (k := ks) R.unit ⟨hk, ri'⟩ hd hpr ?_)
    rw [e]
    exact postE_same S hrv q

theorem getItem_tuple_all {prog : Program} {w : World} {E : Value → Shared → Prop} {s : Shared} {t sl : Addr} {items : Array Value} {u : Tok} {Q : Value → Shared → Prop} (ht : IsTup s.heap t items) (hs : s.heap.IsSliceOf sl (.int (0 : Nat) u) .none .none)
    (h : Q (.ref t) s) : wpAny (model prog w) A (getItem (.ref t) (.ref sl)) Q E s := by
  obtain ⟨os, hos, hcs, hds⟩ := id hs
  have hTs : s.TypeIs (.ref sl) "slice" := ⟨os, hos, hcs⟩
  unfold getItem
  try with_reducible refine wpAny_holding ?_
  first | refine wpAny_bind (wpAny_pure ?_) | skip
  refine wpAny_bind (wpAny_sequenceKey ht.typeIs (by decide) ?_)
  refine wpAny_bind (wpAny_callSpecial?_slot (name := Str.ofString "__getitem__") ht.typeIs slot_tuple_getitem
    (wpAny_call_entry slot_tuple_getitem ht.typeIs entry_tuple_getitem ?_ (args_tuple_getitem _ _)))
  show wpAny _ _ (Builtin.Tuple.tupleItemsOf (.ref t) >>= _) _ _ s
  refine wpAny_bind (tupleItemsOf_ ht ?_)
  refine wpAny_bind (wpAny_typeOf hTs ?_)
  rw [if_pos (by decide)]
  refine wpAny_bind (sliceApplied_from hs (Nat.zero_le _) ?_)
  show wpAny _ _ (if (((0 : Nat) : Int) == 0 && (1 : Int) == 1 && (items.size - 0) == items.size) = true then _ else _) _ _ s
  rw [if_pos (by simp)]
  unfold Builtin.Tuple.tupleIsExact
  refine wpAny_bind (wpAny_bind (wpAny_typeOf ht.typeIs (wpAny_pure ?_)))
  rw [if_pos (by decide)]
  refine wpAny_bind (wpAny_rule (wpAny_pure ⟨_, rfl, wpAny_pure h⟩))

theorem newSlice {prog : Program} {w : World} {E : Value → Shared → Prop} {s : Shared} {vl vu vs : Value} {Q : Value → Shared → Prop}
    (h : Q (.ref s.heap.objs.size) { s with heap := s.heap.push { cls := .type "slice", data := .fields #[vl, vu, vs] } }) : wpAny (model prog w) A (newFields "slice" [vl, vu, vs]) Q E s := by
  unfold newFields
  exact wpAny_newObj_type h

theorem partN {h : Heap} {v : Value} (r : VRel h .none v) : IsPart v none := by obtain rfl := r; exact .none
theorem partI {h : Heap} {v : Value} {i : Int} (r : VRel h (.int i) v) : IsPart v (some i) := by obtain ⟨t, rfl⟩ := r; exact .int _ _

theorem slice_list_sound {value slice : PySem.Expr} {a : Addr} {items : Array Value} {vl vu vs : Value} {lo hi st : Option Int} {xs : List PV} (hl : C.hb.NoLimit) (S : St C H s) (L : s.heap.IsList a items) (pl : IsPart vl lo) (pu : IsPart vu hi) (ps : IsPart vs st)
    (h0 : st ≠ some 0) (hsz : items.size ≤ sizeLine) (r : VRels s.heap xs (slicePick items lo hi st).toList)
    (h : ∀ c, H c = none → Q (.val (.ref c)) (H.set c (.list xs))) :
    wpAny (model C.prog C.w) A (newFields "slice" [vl, vu, vs]) (fun i s₂ => wpAny (model C.prog C.w) A (subscriptTail value slice (.ref a) i) (PostE C H s Q) NoE s₂) NoE s := by
  refine newSlice ?_
  have L' := L.push { cls := .type "slice", data := .fields #[vl, vu, vs] }
  refine tail_gen (Heap.IsList.typeIs (s := { s with heap := s.heap.push { cls := .type "slice", data := .fields #[vl, vu, vs] } }) L') list_getitem_lookup
    (wpAny_getItem_list_slice L' (Heap.IsSliceOf.new ..) pl pu ps h0 ?_ hsz)
  have k : ∀ b o, s.heap.get? b = some o → ((s.heap.push { cls := .type "slice", data := .fields #[vl, vu, vs] }).push { cls := .type "list", data := .seq (slicePick items lo hi st) }).get? b = some o :=
    fun b o e => push_keeps _ _ _ (push_keeps _ _ _ e)
  exact postE_list (t := s.toks) hl S k (by rw [Heap.size_push]; omega) (Heap.get?_push_size _ rfl) (r.mono (Imm.of_keeps k)) h

theorem slice_sound {o lo hi st : PV} {vo vl vu vs : Value} {value slice : PySem.Expr} {mg mb : PySem.Str → Option Value} (G : Good C mg mb) (S : St C H s) (ro : VRel s.heap o vo) (rl : VRel s.heap lo vl) (ru : VRel s.heap hi vu) (rs : VRel s.heap st vs)
    (h : awSlice C o lo hi st H Q) :
    wpAny (model C.prog C.w) A (newFields "slice" [vl, vu, vs]) (fun i s₂ => wpAny (model C.prog C.w) A (subscriptTail value slice vo i) (PostE C H s Q) NoE s₂) NoE s := by
  have le : ∀ {l : List PV} {items : Array Value}, VRels s.heap l items.toList → l.length ≤ 100000 → items.size ≤ sizeLine := fun r h => by rw [← len_rels r]; exact Nat.le_trans h (by rw [line_is]; decide)
  cases h with
  | @upto a y l _ _ hl hb q =>
    obtain rfl := ro
    have go : ∀ (items : Array Value), s.heap.IsList a items → VRels s.heap l items.toList →
        wpAny (model C.prog C.w) A (newFields "slice" [vl, vu, vs]) (fun i s₂ => wpAny (model C.prog C.w) A (subscriptTail value slice (.ref a) i) (PostE C H s Q) NoE s₂) NoE s := by
      intro items L r
      refine slice_list_sound G.nolimit S L (partN rl) (partI ru) (partN rs) (by simp) (le r hb.2) ?_ q
      obtain ⟨k, rfl⟩ := Int.eq_ofNat_of_zero_le hb.1
      rw [slicePick_upto']
      simpa using r.take k
    rcases hl with ea | ea
    · obtain ⟨items, L, r⟩ := S.list ea
      exact go items L r
    · obtain ⟨items, L, r⟩ := G.fl _ _ ea
      exact go items (L.at fun o e => S.keep _ _ e) (r.mono (Imm.of_keeps S.keep))
  | @run a x y l _ _ ea hb q =>
    obtain rfl := ro
    obtain ⟨items, L, r⟩ := S.list ea
    have hle := len_rels r
    refine slice_list_sound G.nolimit S L (partI rl) (partI ru) (partN rs) (by simp) (le r hb.2.2.2) ?_ q
    obtain ⟨j, rfl⟩ := Int.eq_ofNat_of_zero_le hb.1
    obtain ⟨k, rfl⟩ := Int.eq_ofNat_of_zero_le (Int.le_trans hb.1 hb.2.1)
    rw [slicePick_run items j k (by clear q ea; omega) (by clear q ea; omega)]
    simpa using (r.drop j).take (k - j)
  | @rev a l _ _ ea hb q =>
    obtain rfl := ro
    obtain ⟨items, L, r⟩ := S.list ea
    refine slice_list_sound G.nolimit S L (partN rl) (partN ru) (partI rs) (by simp) (le r hb) ?_ q
    rw [krv_pick]
    simpa using r.reverse
  | @tup l x _ _ hb q =>
    obtain ⟨a, items, rfl, ht, hr⟩ := ro
    obtain ⟨t, rfl⟩ := rl
    obtain rfl := ru
    obtain rfl := rs
    have hle := len_rels hr
    have sl := line_is
    obtain ⟨h0, h1, h2⟩ := hb
    obtain ⟨j, rfl⟩ := Int.eq_ofNat_of_zero_le h0
    refine newSlice ?_
    have ht' := ht.push { cls := .type "slice", data := .fields #[.int j t, .none, .none] }
    refine tail_gen (Heap.IsTuple.typeIs (s := { s with heap := s.heap.push { cls := .type "slice", data := .fields #[.int j t, .none, .none] } }) ht') PySem.F.slot_tuple_getitem.lookup ?_
    by_cases hj : j = 0
    · subst hj
      refine getItem_tuple_all (isTup_iff.mpr ht') (Heap.IsSliceOf.new ..) ?_
      exact postE_keeps (t := s.toks) S (push_keeps _) (vT ht' (by simpa using hr.mono (Imm.of_keeps (push_keeps _)))) q
    · refine PyProof.Rows.getItem_tuple_from (isTup_iff.mpr ht') (Heap.IsSliceOf.new ..) (by clear q; omega) (by clear q; omega) ?_ (by clear q; omega)
      have k : ∀ b o, s.heap.get? b = some o → ((s.heap.push { cls := .type "slice", data := .fields #[.int j t, .none, .none] }).push { cls := .type "tuple", data := .seq (items.toList.drop j).toArray }).get? b = some o :=
        fun b o e => push_keeps _ _ _ (push_keeps _ _ _ e)
      exact postE_keeps (t := s.toks) S k (vT (IsTuple.pushed _ _) (by simpa using (hr.drop j).mono (Imm.of_keeps k))) q
end
end
section
open PySem PySem.W PySem.Calls PyProof.Rows
open scoped Classical

/-- a name read: of the frame, or of the text's own globals -/
noncomputable def awName (C : Ctx) (sc : Scope) (m : Loc) (x : PySem.Str) (H : AH) (Q : PV → AH → Prop) : Prop :=
  match m x with
  | some p => Q p H
  | none => sc.names.lookup x = some .globalImplicit ∧ ∃ p, C.Gl x = some p ∧ Q p H

section
variable {C : Ctx} {A : Around} {H : AH} {s : Shared} {n : Nat} {env : Env} {m : Loc}

theorem debug_ne {x : PySem.Str} (h : (x == ("__debug__" : PySem.Str)) = false) : (x == ("__debug__" : PySem.Str)) = false := h

/-- the scope that a text is read under, against the frame's own -/
structure ScOk (env : Env) (sc : Scope) : Prop where
  glob : ∀ x, sc.names.lookup x = some .globalImplicit → env.kindOf x = some .globalImplicit
  cell : ∀ x, sc.names.lookup x = some .cell → env.kindOf x = some .cell
theorem ScOk.refl (env : Env) : ScOk env env.scope := ⟨fun _ e => e, fun _ e => e⟩

theorem load_sound {x : PySem.Str} {sc : Scope} {Q : PV → AH → Prop} {mg mb : PySem.Str → Option Value} (G : Good C mg mb) (S : St C H s) (F : FRel C env H s.heap m) (hsc : ScOk env sc) (h : awName C sc m x H Q) :
    wpAny (model C.prog C.w) A (loadName env x) (PostE C H s Q) NoE s := by
  unfold awName at h
  split at h
  · rename_i p hp
    rcases F.names x p hp with hk | ⟨hk, c, v, hc, hv, hr⟩
    · obtain ⟨mm, hn, hq⟩ := F.ns
      obtain ⟨v, hv, hr⟩ := hq x p hp hk
      exact wpAny_loadName_local F.kind hk hn hv (postE_here S hr h)
    · rcases hk with hk | ⟨hk, hcd⟩
      · exact wpAny_loadName_cell F.kind hk hc hv (postE_here S hr h)
      · exact wpAny_loadName_free F.kind hk hc hv (postE_here S hr h) hcd
  · obtain ⟨hk, p, hp, hq⟩ := h
    obtain ⟨v, hv, hr⟩ := G.gl x p hp
    have hg : s.heap.Ns mainGlobals mg := G.g.keeps S.keep
    have hb : s.heap.Ns builtinsNs mb := G.b.keeps S.keep
    have hr' := hr.mono (Imm.of_keeps S.keep)
    have hk' : env.kindOf x = some .globalImplicit := hsc.glob x hk
    have kind := F.kind
    have main : wpAny (model C.prog C.w) A (loadGlobal env x) (PostE C H s Q) NoE s := by
      rcases hv with hv | ⟨h1, h2⟩
      · exact loadGlobal_global (by rw [F.glob]; exact hg) hv (postE_here S hr' hq)
      · exact loadGlobal_builtin (by rw [F.glob]; exact hg) h1 (by rw [F.blt]; exact hb) h2 (postE_here S hr' hq)
    unfold loadName
    simp only [Env.blockKind, kind, hk', ScopeKind.isAnnotationScope, Bool.false_and, Bool.false_eq_true, if_false]
    exact main

/-- a local name written -/
theorem store_local {x : PySem.Str} {p : PV} {v : Value} {Q : Unit → Shared → Prop} (S : St C H s) (F : FRel C env H s.heap m) (hk : env.kindOf x = some .local) (r : VRel s.heap p v)
    (h : ∀ s', St C H s' → Stp (fun b => b = env.locals) H s.heap H s'.heap → FRel C env H s'.heap (m.set x p) → Q () s') :
    wpAny (model C.prog C.w) A (storeName env x v) Q NoE s := by
  obtain ⟨mm, hn, hq⟩ := F.ns
  refine wpAny_storeName_local hk hn (fun h' hn' hs => ?_) (by rw [F.kind]; rfl)
  obtain ⟨o, es, ep, ho, hd, _⟩ := id hn
  have i : Imm s.heap h' := Imm.of_sameBut hs (fun items ⟨o', ho', _, _, hd'⟩ => by rw [ho] at ho'; cases ho'; rw [hd] at hd'; cases hd')
    (fun a b c t u w e => by rw [e] at ho; cases ho; cases hd)
  have live : ∀ a, (s.heap.get? a).isSome = true → (h'.get? a).isSome = true := fun a e => by
    by_cases q : a = env.locals
    · subst q; obtain ⟨o', _, _, ho', _⟩ := hn'; rw [ho']; rfl
    · rw [hs.2 a q]; exact e
  refine h _ ⟨fun b ob e => ?_, fun a ob e => (S.rep a ob e).mono i fun x hx => (hs.2 a (by rintro rfl; rw [F.lH] at e; cases e)).trans hx, S.new, S.gens, S.drawn, S.os⟩
    ⟨i, fun a ob e _ w => (hs.2 a fun q => w q).trans e, fun _ _ _ e => e, fun a e _ => live a e⟩ ?_
  · refine (hs.2 b ?_).trans (S.keep b ob e)
    rintro rfl; rw [F.lo] at e; cases e
  · refine ⟨F.kind, F.glob, F.blt, F.lo, F.lH, ⟨_, hn', fun y q e k => ?_⟩, fun y q e => ?_, fun y c hc => ?_, F.apart, F.call⟩
    · unfold Loc.set at e
      by_cases hy : y = x
      · subst hy
        rw [if_pos rfl] at e; cases e
        exact ⟨v, by simp, r.mono i⟩
      · rw [if_neg hy] at e
        obtain ⟨u, hu, hr⟩ := hq y q e k
        exact ⟨u, by simp [hy, hu], hr.mono i⟩
    · unfold Loc.set at e
      by_cases hy : y = x
      · subst hy; exact .inl hk
      · rw [if_neg hy] at e
        refine (F.names y q e).imp id fun ⟨k, c, u, hc, hv, hr⟩ => ⟨k, c, u, hc, hv.sameBut hs (F.cell y c hc).2.2.1, hr.mono i⟩
    · obtain ⟨h1, h2, h3, u, hu⟩ := F.cell y c hc
      exact ⟨h1, h2, h3, u, hu.sameBut hs h3⟩

/-- a name written: what the frame is behind it -/
theorem store_sound {x : PySem.Str} {p : PV} {v : Value} {Q : Unit → Shared → Prop} (S : St C H s) (F : FRel C env H s.heap m) (hk : env.kindOf x = some .local ∨ env.kindOf x = some .cell) (r : VRel s.heap p v)
    (h : ∀ s', St C H s' → Stp (WE env) H s.heap H s'.heap → FRel C env H s'.heap (m.set x p) → Q () s') :
    wpAny (model C.prog C.w) A (storeName env x v) Q NoE s := by
  rcases hk with hk | hk
  · exact store_local S F hk r fun s' S' st F' => h s' S' (st.widen fun a e => .inl e) F'
  · obtain ⟨c, hc⟩ := F.call x hk
    obtain ⟨h1, h2, h3, u, hu⟩ := F.cell x c hc
    refine wpAny_storeName_cell F.kind hk hc hu fun h' hc' hs => ?_
    obtain ⟨o, ho, hd⟩ := id hu
    have i : Imm s.heap h' := Imm.of_sameBut hs (fun items ⟨o', ho', _, _, hd'⟩ => by rw [ho] at ho'; cases ho'; rw [hd] at hd'; cases hd')
      (fun a b c t u w e => by rw [e] at ho; cases ho; cases hd)
    have live : ∀ a, (s.heap.get? a).isSome = true → (h'.get? a).isSome = true := fun a e => by
      by_cases q : a = c
      · subst q; obtain ⟨o', ho', _⟩ := hc'; rw [ho']; rfl
      · rw [hs.2 a q]; exact e
    refine h _ ⟨fun b ob e => ?_, fun a ob e => (S.rep a ob e).mono i fun x hx => (hs.2 a (by rintro rfl; rw [h1] at e; cases e)).trans hx, S.new, S.gens, S.drawn, S.os⟩
      ⟨i, fun a ob e _ w => (hs.2 a fun q => w (.inr ⟨x, q ▸ hc⟩)).trans e, fun _ _ _ e => e, fun a e _ => live a e⟩ ?_
    · refine (hs.2 b ?_).trans (S.keep b ob e)
      rintro rfl; rw [h2] at e; cases e
    · obtain ⟨mm, hn, hq⟩ := F.ns
      refine ⟨F.kind, F.glob, F.blt, F.lo, F.lH, ⟨mm, hn.sameBut hs (Ne.symm h3), fun y q e k => ?_⟩, fun y q e => ?_, fun y c' hc₂ => ?_, F.apart, F.call⟩
      · unfold Loc.set at e
        by_cases hy : y = x
        · subst hy; rw [hk] at k; cases k
        · rw [if_neg hy] at e
          obtain ⟨w, hw, hr⟩ := hq y q e k
          exact ⟨w, hw, hr.mono i⟩
      · unfold Loc.set at e
        by_cases hy : y = x
        · subst hy
          rw [if_pos rfl] at e; cases e
          exact .inr ⟨.inl hk, c, v, hc, hc', r.mono i⟩
        · rw [if_neg hy] at e
          exact (F.names y q e).imp id fun ⟨k, c₂, w, hc₂, hv, hr⟩ => ⟨k, c₂, w, hc₂, hv.sameBut hs (fun q => hy (F.apart y x c (q ▸ hc₂) hc)), hr.mono i⟩
      · obtain ⟨g1, g2, g3, w, hw⟩ := F.cell y c' hc₂
        by_cases q : c' = c
        · subst q; exact ⟨g1, g2, g3, _, hc'⟩
        · exact ⟨g1, g2, g3, w, hw.sameBut hs q⟩
end
end
section
open PySem PySem.W PySem.Calls PyProof.Rows
open scoped Classical

theorem getL_str {es : List DictEntry} (hk : ∀ e ∈ es, ∃ x t, e.key = .str x t) (x : PySem.Str) : getL x es = some ((es.find? (·.key.isStr x)).map (·.val)) := by
  unfold getL
  cases h : es.find? (·.key.isStr x) with
  | some e => rfl
  | none =>
    have : es.any (·.refKey) = false := by
      rw [List.any_eq_false]
      intro e he
      obtain ⟨y, t, q⟩ := hk e he
      simp [DictEntry.refKey, q]
    simp [this]

theorem putL_length (x : PySem.Str) (hsh : Int) (key v : Value) : ∀ es : List DictEntry, (putL x hsh key v es).length ≤ es.length + 1
  | [] => by simp [putL]
  | e :: r => by
    have := putL_length x hsh key v r
    unfold putL
    split <;> simp only [List.length_cons] <;> omega
theorem putL_keys (x : PySem.Str) (hsh : Int) (t : Tok) (v : Value) : ∀ es : List DictEntry, (∀ e ∈ es, ∃ x t, e.key = .str x t) → ∀ e ∈ putL x hsh (.str x t) v es, ∃ x t, e.key = .str x t
  | [], _, e, he => by simp only [putL, List.mem_singleton] at he; subst he; exact ⟨x, t, rfl⟩
  | d :: r, hk, e, he => by
    unfold putL at he
    split at he
    · rcases List.mem_cons.mp he with rfl | he
      · exact hk d (by simp)
      · exact hk e (by simp [he])
    · rcases List.mem_cons.mp he with rfl | he
      · exact hk _ (by simp)
      · exact putL_keys x hsh t v r (fun e he => hk e (by simp [he])) e he
theorem isStr_iff {v : Value} {x : PySem.Str} (h : ∃ y t, v = .str y t) : v.isStr x = true ↔ ∃ t, v = .str x t := by
  obtain ⟨y, t, rfl⟩ := h
  simp [Value.isStr]
theorem putL_find' (x : PySem.Str) (hsh : Int) (t : Tok) (v : Value) (y : PySem.Str) : ∀ es : List DictEntry, (∀ e ∈ es, ∃ x t, e.key = .str x t) →
    ((putL x hsh (.str x t) v es).find? (·.key.isStr y)).map (·.val) = if y = x then some v else (es.find? (·.key.isStr y)).map (·.val)
  | [], _ => by
    simp only [putL, List.find?_cons, List.find?_nil, Value.isStr]
    by_cases h : y = x
    · subst h; simp
    · have : (x == y) = false := beq_eq_false_iff_ne.mpr (Ne.symm h)
      simp [h, this]
  | d :: r, hk => by
    have ih := putL_find' x hsh t v y r fun e he => hk e (by simp [he])
    obtain ⟨z, u, hz⟩ := hk d (by simp)
    unfold putL
    rw [hz]
    by_cases hzx : z = x
    · subst hzx
      have : (Value.str z u).isStr z = true := by simp [Value.isStr]
      rw [if_pos this]
      by_cases h : y = z
      · subst h
        simp [Value.isStr]
      · have h2 : (z == y) = false := beq_eq_false_iff_ne.mpr (Ne.symm h)
        simp [Value.isStr, hz, h2, h]
    · have h1 : (Value.str z u).isStr x = false := by simp [Value.isStr, hzx]
      rw [if_neg (by rw [h1]; decide)]
      by_cases h : y = z
      · subst h
        simp [Value.isStr, hz, hzx]
      · have h2 : (z == y) = false := beq_eq_false_iff_ne.mpr (Ne.symm h)
        simp only [List.find?_cons, hz, Value.isStr, h2]
        exact ih

noncomputable def awAttr (C : Ctx) (o : PV) (x : PySem.Str) (H : AH) (Q : PV → AH → Prop) : Prop :=
  match o with
  | .val (.ref a) => ∃ d fs n b, H a = some (.inst C.KT d) ∧ x ∈ C.attrs ∧ H d = some (.ns fs n) ∧ fs x = some (.val (.ref b)) ∧ Q (.val (.ref b)) H
  | _ => False
noncomputable def awSetAttr (C : Ctx) (o : PV) (x : PySem.Str) (p : PV) (H : AH) (k : AH → Prop) : Prop :=
  match o with
  | .val (.ref a) => ∃ d fs n, H a = some (.inst C.KT d) ∧ x ∈ C.attrs ∧ H d = some (.ns fs n) ∧ n < 900 ∧ k (H.set d (.ns (fun y => if y = x then some p else fs y) (n + 1)))
  | _ => False

noncomputable def PostU (C : Ctx) (H : AH) (s : Shared) (k : AH → Prop) : Shared → Prop := fun s' => ∃ H', St C H' s' ∧ Stp NoW H s.heap H' s'.heap ∧ k H'

section
variable {C : Ctx} {A : Around} {H : AH} {s : Shared} {n : Nat} {mg mb : PySem.Str → Option Value}

theorem inst_of {a d : Addr} {fs : PySem.Str → Option PV} {k : Nat} (S : St C H s) (h1 : H a = some (.inst C.KT d)) (h2 : H d = some (.ns fs k)) :
    ∃ sl es e, InstAt s.heap a ⟨.ref C.KT, some d, .plain, sl⟩ C.KT (some (dictOf es e)) ∧ s.heap.get? d = some (dictOf es e) ∧ es.length ≤ k ∧ (∀ e ∈ es, ∃ x t, e.key = .str x t) ∧
      ∀ x, OV s.heap (fs x) ((es.find? (·.key.isStr x)).map (·.val)) := by
  obtain ⟨sl, ho⟩ := S.rep _ _ h1
  obtain ⟨es, e, hd, hl, hk, hf⟩ := S.rep _ _ h2
  exact ⟨sl, es, e, ⟨ho, rfl, rfl, hd⟩, hd, hl, hk, hf⟩

theorem attr_sound {o : PV} {x : PySem.Str} {vo : Value} {expr : Bool} {Q : PV → AH → Prop} (G : Good C mg mb) (S : St C H s) (ro : VRel s.heap o vo) (h : awAttr C o x H Q) :
    wpAny (model C.prog C.w) A (getAttr vo x expr) (PostE C H s Q) NoE s := by
  unfold awAttr at h
  split at h
  · rename_i a
    obtain ⟨d, fs, k, b, h1, hx, h2, hb, q⟩ := h
    simp only [VRel] at ro; subst ro
    obtain ⟨sl, es, e, I, _, _, hk, hf⟩ := inst_of S h1 h2
    have hxf := hf x
    rw [hb] at hxf
    obtain ⟨v, hv, hr⟩ := hxf
    have hr' := hr
    simp only [VRel] at hr; subst hr
    have X : C.K.In s.heap := G.X.keeps S.keep
    obtain ⟨k1, k2, k3, k4, k5, k6⟩ := G.kcls
    refine get_value X I (plainGet_of k6).1 (findObj_own k1 (G.kattr x hx) rfl (by show getL x es = _; rw [getL_str hk, hv])) rfl (postE_same S hr' q)
  · cases h

theorem set_attr_sound {o p : PV} {x : PySem.Str} {vo v : Value} {k : AH → Prop} (G : Good C mg mb) (S : St C H s) (ro : VRel s.heap o vo) (r : VRel s.heap p v) (h : awSetAttr C o x p H k) :
    wpAny (model C.prog C.w) A (setAttr vo x v) (fun _ s' => PostU C H s k s') NoE s := by
  unfold awSetAttr at h
  split at h
  · rename_i a
    obtain ⟨d, fs, j, h1, hx, h2, hj, q⟩ := h
    simp only [VRel] at ro; subst ro
    obtain ⟨sl, es, e, I, D, hl, hk, hf⟩ := inst_of S h1 h2
    have X : C.K.In s.heap := G.X.keeps S.keep
    obtain ⟨k1, k2, k3, k4, k5, k6⟩ := G.kcls
    refine set_plain X I k5 ?_
    have ht : takerIn C.K C.KT x = some none := by unfold takerIn; rw [G.kattr x hx]; rfl
    refine osa_open (s := { s with toks := s.toks + 1 }) X I k2 ht fun b => ?_
    obtain ⟨cd, hc, hd'⟩ := any_some k1
    obtain ⟨hxx, hcl, hn, -⟩ := I
    refine wpAny_bind (wpAny_pure (wpAny_bind (wpAny_bind (wpAny_loadPart hxx (wpAny_bind (Looks.here (s := { s with toks := s.toks + 1 }) (looks_clsIn X hc) ?_))))))
    rw [hd']
    refine wpAny_pure (a := some d) (wpAny_bind (wpAny_pure (wpAny_bind ?_)))
    unfold nsSet
    refine wpAny_bind (wpAny_bind (wpAny_askSetting (wpAny_pure (wpAny_bind (wpAny_mkText (wpAny_bind (wpAny_loadPart D ?_)))))))
    dsimp only
    have c : (!es.toArray.any (·.key.isStr x) && es.toArray.any (·.refKey)) = false := by
      have : es.toArray.any (·.refKey) = false := by
        rw [← Array.any_toList, List.any_eq_false]
        intro e he
        obtain ⟨y, t, q⟩ := hk e he
        simp [DictEntry.refKey, q]
      rw [this, Bool.and_false]
    rw [aRefKeyMayBeTheName_at, c]
    refine wpAny_updatePart D ?_
    have hup : Obj.putName x (PyData.keyHash C.w.params x) (.str x (s.toks + 1)) v (dictOf es e) = dictOf (putL x (PyData.keyHash C.w.params x) (.str x (s.toks + 1)) v es) (putN x es e) := putName_dict ..
    have D' := Heap.get?_update_self (Obj.putName x (PyData.keyHash C.w.params x) (.str x (s.toks + 1)) v) D (by rw [hup]; rfl)
    rw [hup] at D'
    have lenp := putL_length x (PyData.keyHash C.w.params x) (.str x (s.toks + 1)) v es
    refine wpAny_bind (wpAny_lookBehind D' (pastItsLine_dict (by rw [List.size_toArray, sizeLine_eq]; omega)) ?_)
    refine wpAny_pure ?_
    obtain ⟨S', st⟩ := S.change (t := s.toks + 1 + 1) (o := .ns (fun y => if y = x then some p else fs y) (j + 1)) h2 (Heap.SameBut.update s.heap d _) (fun i => ⟨_, _, D', by omega, putL_keys _ _ _ _ _ hk, fun y => by
      rw [putL_find' _ _ _ _ _ _ hk]
      by_cases hy : y = x
      · subst hy; simp only [if_pos]; exact ⟨v, rfl, r.mono i⟩
      · simp only [if_neg hy]; exact (hf y).mono i⟩)
    exact ⟨_, S', st, q⟩
  · cases h
end
end
section
open PySem PySem.W PySem.Calls PyProof.Rows
open scoped Classical

inductive awLen : PV → AH → (PV → AH → Prop) → Prop
  | tup {l : List PV} {H : AH} {Q : PV → AH → Prop} (h : l.length ≤ 1000000) (q : Q (.int l.length) H) : awLen (.tup l) H Q
  | lst {a : Addr} {l : List PV} {H : AH} {Q : PV → AH → Prop} (ea : H a = some (.list l)) (h : l.length ≤ 1000000) (q : Q (.int l.length) H) : awLen (.val (.ref a)) H Q

noncomputable def rngOk (a b c : Int) : Prop := (-100000 < a ∧ a < 100000) ∧ (-100000 < b ∧ b < 100000) ∧ (c = 1 ∨ c = -1)

/-- a call of a builtin or of a thing of the text -/
inductive awCall (C : Ctx) (n : Nat) : PV → List PV → AH → (PV → AH → Prop) → Prop
  | len {x : PV} {H : AH} {Q : PV → AH → Prop} (h : awLen x H Q) : awCall C n (.val (.builtin "len")) [x] H Q
  | rng1 {i : Int} {H : AH} {Q : PV → AH → Prop} (h : rngOk 0 i 1) (q : Q (.rng 0 i 1) H) : awCall C n (.val (.type "range")) [.int i] H Q
  | str {i : Int} {H : AH} {Q : PV → AH → Prop} (h : -10000000 < i ∧ i < 10000000) (q : Q (.str (Str.ofString (toString i))) H) : awCall C n (.val (.type "str")) [.int i] H Q
  | rng3 {a b c : Int} {H : AH} {Q : PV → AH → Prop} (h : rngOk a b c) (q : Q (.rng a b c) H) : awCall C n (.val (.type "range")) [.int a, .int b, .int c] H Q
  | tup {a : Addr} {l : List PV} {H : AH} {Q : PV → AH → Prop} (ea : H a = some (.list l)) (h : l.length ≤ 1000000) (q : Q (.tup l) H) : awCall C n (.val (.type "tuple")) [.val (.ref a)] H Q
  | fn {f : Addr} {args : List PV} {H : AH} {Q : PV → AH → Prop} (h : (C.Fn f).isSome = true ∨ f = C.KT) (q : CallP C n (.ref f) args H Q) : awCall C n (.val (.ref f)) args H Q

section
variable {C : Ctx} {A : Around} {H : AH} {s : Shared} {n : Nat} {mg mb : PySem.Str → Option Value} {Q : PV → AH → Prop}

theorem vR {h : Heap} {a b c : Int} {r t u w} (x : IsRange h r a b c t u w) : VRel h (.rng a b c) (.ref r) := ⟨r, t, u, w, rfl, x⟩
theorem len_line {h : Heap} {l : List PV} {vs : Array Value} (r : VRels h l vs.toList) (e : l.length ≤ 1000000) : (vs.size : Int) < 2 ^ 63 := by rw [← len_rels r]; omega
theorem len_sound {x : PV} {v : Value} (S : St C H s) (r : VRel s.heap x v) (h : awLen x H Q) : wpAny (model C.prog C.w) A (call (.builtin "len") [v]) (PostE C H s Q) NoE s := by
  cases h with
  | tup h q =>
    obtain ⟨a, items, rfl, ht, hr⟩ := r
    refine PyProof.Rows.len_tuple (isTup_iff.mpr ht) (len_line hr h) ?_
    rw [← len_rels hr]
    exact postE_same S vI q
  | lst ea h q =>
    obtain rfl := r
    obtain ⟨items, L, hr⟩ := S.list ea
    refine PyProof.Rows.len_list L (len_line hr h) ?_
    rw [← len_rels hr]
    exact postE_same S vI q

theorem log2_small {i : Int} (h : -10000000 < i ∧ i < 10000000) : i.natAbs.log2 < 1920 := by
  by_cases h0 : i.natAbs = 0
  · rw [h0]; decide
  · have : i.natAbs.log2 < 24 := (Nat.log2_lt h0).mpr (by omega)
    omega

theorem call_sound {f : PV} {args : List PV} {vf : Value} {vs : List Value} (R : Room A n) (S : St C H s) (rf : VRel s.heap f vf) (rs : VRels s.heap args vs) (h : awCall C n f args H Q) :
    wpAny (model C.prog C.w) A (call vf vs) (PostE C H s Q) NoE s := by
  cases h with
  | len h => obtain rfl := rf; obtain ⟨v, _, rfl, r, rfl⟩ := rs; exact len_sound S r h
  | rng1 h q =>
    obtain rfl := rf; obtain ⟨v, _, rfl, ⟨tk, rfl⟩, rfl⟩ := rs
    exact call_range_1 (postE_keeps S (push_keeps _) (vR (IsRange.new ..)) q)
  | str h q => obtain rfl := rf; obtain ⟨v, _, rfl, ⟨tk, rfl⟩, rfl⟩ := rs; exact PySem.P.str_of_int (log2_small h) (postE_same S vS q)
  | rng3 h q =>
    obtain rfl := rf; obtain ⟨v, _, rfl, ⟨tk, rfl⟩, v2, _, rfl, ⟨tk2, rfl⟩, v3, _, rfl, ⟨tk3, rfl⟩, rfl⟩ := rs
    exact call_range_3 (fun e => by rcases h.2.2 with h | h <;> rw [h] at e <;> cases e) (postE_keeps S (push_keeps _) (vR (IsRange.new ..)) q) (.inl (PyProof.noPylong_small (by obtain ⟨h1, h2, h3⟩ := h; clear q; omega)))
  | tup ea h q =>
    obtain rfl := rf; obtain ⟨v, _, rfl, rfl, rfl⟩ := rs
    obtain ⟨items, L, hr⟩ := S.list ea
    refine call_tuple_list L (fun h' k => ?_) (by rw [← len_rels hr]; exact Nat.le_trans h (by rw [line_is]; decide))
    have k' : ∀ b o, s.heap.get? b = some o → (h'.push { cls := .type "tuple", data := .seq items }).get? b = some o := fun b o e => push_keeps _ _ _ (k b o e)
    exact postE_keeps (t := s.toks) S k' (vT (IsTuple.pushed _ _) (hr.mono (Imm.of_keeps k'))) q
  | fn h q => obtain rfl := rf; exact q A s vs R S rs

/-- a method, found -/
inductive Mid where
  | append (a : Addr)
  | dget (a : Addr)
  | join (x : PySem.Str)
  | own (f : Addr) (self : PV)

inductive awGetM (C : Ctx) : PySem.Str → PV → AH → (Mid → Prop) → Prop
  | app {a : Addr} {l : List PV} {H : AH} {k : Mid → Prop} (ea : H a = some (.list l)) (q : k (.append a)) : awGetM C (Str.ofString "append") (.val (.ref a)) H k
  | getI {a : Addr} {m : Int → Option PV} {j : Nat} {H : AH} {k : Mid → Prop} (ea : H a = some (.idict m j)) (q : k (.dget a)) : awGetM C (Str.ofString "get") (.val (.ref a)) H k
  | getT {a : Addr} {m : List PV → Option PV} {j : Nat} {H : AH} {k : Mid → Prop} (ea : H a = some (.tdict m j)) (q : k (.dget a)) : awGetM C (Str.ofString "get") (.val (.ref a)) H k
  | own {a d f : Addr} {x : PySem.Str} {fs : PySem.Str → Option PV} {j : Nat} {H : AH} {k : Mid → Prop} (ea : H a = some (.inst C.KT d)) (ed : H d = some (.ns fs j)) (hx : fs x = none) (hf : C.meth x = some f) (hF : (C.Fn f).isSome = true) (q : k (.own f (.val (.ref a)))) : awGetM C x (.val (.ref a)) H k
  | join {y : PySem.Str} {H : AH} {k : Mid → Prop} (q : k (.join y)) : awGetM C (Str.ofString "join") (.str y) H k

inductive awRunM (C : Ctx) (n : Nat) : Mid → List PV → AH → (PV → AH → Prop) → Prop
  | app {a : Addr} {p : PV} {xs : List PV} {H : AH} {Q : PV → AH → Prop} (ea : H a = some (.list xs)) (h : xs.length < 1000000) (q : Q .none (H.set a (.list (xs ++ [p])))) : awRunM C n (.append a) [p] H Q
  | getI {a : Addr} {m : Int → Option PV} {j : Nat} {k : Int} {d : PV} {H : AH} {Q : PV → AH → Prop} (ea : H a = some (.idict m j)) (q : Q ((m k).getD d) H) : awRunM C n (.dget a) [.int k, d] H Q
  | getT {a : Addr} {m : List PV → Option PV} {j : Nat} {ks : List PV} {d : PV} {H : AH} {Q : PV → AH → Prop} (ea : H a = some (.tdict m j)) (hk : keyD 3 (.tup ks)) (q : Q ((m ks).getD d) H) : awRunM C n (.dget a) [.tup ks, d] H Q
  | join {sep : PySem.Str} {a : Addr} {ys : List PySem.Str} {H : AH} {Q : PV → AH → Prop} (ea : H a = some (.list (ys.map .str))) (hb : (ys.map (·.length)).sum + ys.length * sep.length ≤ 16000000) (q : Q (.str (Txt.join sep ys)) H) : awRunM C n (.join sep) [.val (.ref a)] H Q
  | own {f : Addr} {self : PV} {args : List PV} {H : AH} {Q : PV → AH → Prop} (q : CallP C n (.ref f) (self :: args) H Q) : awRunM C n (.own f self) args H Q

noncomputable def MidV (h : Heap) : Mid → Value → List Value → Prop
  | .append a, f, first => f = .builtin "list.append" ∧ first = [.ref a]
  | .dget a, f, first => f = .builtin "dict.get" ∧ first = [.ref a]
  | .join x, f, first => f = .builtin "str.join" ∧ ∃ t, first = [.str x t]
  | .own g self, f, first => f = .ref g ∧ ∃ v, first = [v] ∧ VRel h self v

theorem MidV.mono {h h' : Heap} (i : Imm h h') {mid : Mid} {f : Value} {first : List Value} (x : MidV h mid f first) : MidV h' mid f first := by
  cases mid with
  | own g self => obtain ⟨e, v, e2, r⟩ := x; exact ⟨e, v, e2, r.mono i⟩
  | _ => exact x

theorem getM_sound {x : PySem.Str} {o : PV} {vo : Value} {pl : Sem Bool} {k : Mid → Prop} (G : Good C mg mb) (S : St C H s) (ro : VRel s.heap o vo) (h : awGetM C x o H k) :
    wpAny (model C.prog C.w) A (getMethod vo x pl) (fun r s' => ∃ mid, MidV s'.heap mid r.1 r.2 ∧ s' = s ∧ k mid) NoE s := by
  cases h with
  | @app a _ _ _ ea q =>
    obtain rfl := ro
    obtain ⟨items, j, ho, _⟩ := S.rep _ _ ea
    exact getMethod_list_append ho rfl rfl ⟨.append a, ⟨rfl, rfl⟩, rfl, q⟩
  | @getI a _ _ _ _ ea q =>
    obtain rfl := ro
    obtain ⟨kvs, hd, _⟩ := S.rep _ _ ea
    exact getMethod_builtin (id := "dict.get") hd.typeIs PySem.F.plainAttrs_dict PySem.F.slot_dict_get PySem.F.type_dict_get hd.mapOf.noDict ⟨.dget a, ⟨rfl, rfl⟩, rfl, q⟩
  | @getT a _ _ _ _ ea q =>
    obtain rfl := ro
    obtain ⟨kvs, hd, _⟩ := S.rep _ _ ea
    exact getMethod_builtin (id := "dict.get") hd.typeIs PySem.F.plainAttrs_dict PySem.F.slot_dict_get PySem.F.type_dict_get (dictOfH_noDict hd) ⟨.dget a, ⟨rfl, rfl⟩, rfl, q⟩
  | @own a d f x fs j _ _ ea ed hx hf _ q =>
    obtain rfl := ro
    obtain ⟨sl, es, e, I, _, _, hk, hfs⟩ := inst_of S ea ed
    have X : C.K.In s.heap := G.X.keeps S.keep
    obtain ⟨k1, k2, k3, k4, k5, k6⟩ := G.kcls
    obtain ⟨g1, g2⟩ := G.kmeth x f hf
    have hxe := hfs x
    rw [hx] at hxe
    refine method_fn X I (plainGet_of k6).1 (plainGet_of k6).2 g1 (beq_iff_eq.mp g2) ?_ ⟨.own f (.val (.ref a)), ⟨rfl, _, rfl, vV⟩, rfl, q⟩
    show (lookIn x (dictOf es e)).map _ = _
    rw [lookIn_dict, getL_str hk, show (es.find? (·.key.isStr x)).map (·.val) = none from hxe]; rfl
  | @join y _ _ q =>
    obtain ⟨t, rfl⟩ := ro
    exact getMethod_builtin (id := "str.join") (T := "str") (typeIs_str _ _ _) PySem.F.plainAttrs_str PySem.F.slot_str_join PySem.F.type_str_join (fun _ e => Value.noConfusion e) ⟨.join y, ⟨rfl, t, rfl⟩, rfl, q⟩

theorem strsAre_of {h : Heap} : ∀ {ys : List PySem.Str} {vs : List Value}, VRels h (ys.map .str) vs → StrsAre vs ys := fun {ys} => by
  induction ys with
  | nil => intro vs r; obtain rfl := r; exact .nil
  | cons y ys ih => intro vs r; obtain ⟨v, w, rfl, ⟨t, rfl⟩, r2⟩ := r; exact .cons y t (ih r2)

theorem got {t} {m : Option PV} {o : Option Value} {d : PV} {v : Value} (S : St C H s) (r : VRel s.heap d v) (hf : OV s.heap m o) (q : Q (m.getD d) H) : PostE C H s Q (o.getD v) { s with toks := t } := by
  cases m with
  | none => obtain rfl := hf; exact postE_same S r q
  | some p => obtain ⟨u, rfl, ru⟩ := hf; exact postE_same S ru q
theorem runM_sound {mid : Mid} {args : List PV} {f : Value} {first vs : List Value} (R : Room A n) (S : St C H s) (rm : MidV s.heap mid f first) (rs : VRels s.heap args vs) (h : awRunM C n mid args H Q) :
    wpAny (model C.prog C.w) A (call f (first ++ vs)) (PostE C H s Q) NoE s := by
  cases h with
  | @app a p xs _ _ ea h q =>
    obtain ⟨rfl, rfl⟩ := rm
    obtain ⟨v, _, rfl, r, rfl⟩ := rs
    obtain ⟨items, j, ho, hr⟩ := S.rep _ _ ea
    have hT : s.TypeIs (.ref a) "list" := ⟨_, ho, rfl⟩
    have sl := line_is
    have hl := len_rels hr
    refine wpAny_call_entry slot_list_append hT entry_list_append ?_ (args_list_append _ _)
    show wpAny _ _ (updateSeq a (·.push v) >>= fun _ => ret .none) _ _ s
    refine wpAny_bind (wpAny_updateSeq ho rfl (wpAny_pure ⟨.none, rfl, ?_⟩) (by clear q; omega))
    obtain ⟨S', st⟩ := S.change (t := s.toks) (o := .list (xs ++ [p])) ea (Heap.SameBut.update s.heap a (Obj.mapSeq (·.push v))) (fun i => ⟨items.push v, _, Heap.get?_update_self _ ho rfl, by
      rw [Array.toList_push]
      exact (hr.mono i).append (VRels.cons (r.mono i) VRels.nil)⟩)
    exact ⟨_, _, vN, S', st, q⟩
  | @getI a m j k d _ _ ea q =>
    obtain ⟨rfl, rfl⟩ := rm
    obtain ⟨v, _, rfl, ⟨t, rfl⟩, v2, _, rfl, r, rfl⟩ := rs
    obtain ⟨kvs, hd, _, hf⟩ := S.rep _ _ ea
    refine call_meetsIn PySem.F.slot_dict_get hd.typeIs PySem.F.entry_dict_get (PySem.F.args_dict_get_3 _ _ _) (meets_dict_get_default (intKind C.prog C.w) a (k := k) isK (by rw [beq_eq_false_iff_ne]; exact (S.new _ _ ea).2) v2) ⟨_, hd.mapOf, ?_⟩
    exact got S r (hf k) q
  | @getT a m j ks d _ _ ea hk q =>
    obtain ⟨rfl, rfl⟩ := rm
    obtain ⟨v, _, rfl, rk, v2, _, rfl, r, rfl⟩ := rs
    obtain ⟨xs, hd, _, hf⟩ := S.rep _ _ ea
    have rk' := rk
    obtain ⟨b, items, rfl, _⟩ := rk
    refine call_meetsIn PySem.F.slot_dict_get hd.typeIs PySem.F.entry_dict_get (PySem.F.args_dict_get_3 _ _ _) (meetsH_dict_get_default (keyKind C.prog C.w) a b (by rw [beq_eq_false_iff_ne]; exact (S.new _ _ ea).2) v2) ⟨R.unit, ks, xs, ⟨hk, rk'⟩, hd, ?_⟩
    exact got S r (hf ks) q
  | @join sep a ys _ _ ea hb q =>
    obtain ⟨rfl, t, rfl⟩ := rm
    obtain ⟨v, _, rfl, rfl, rfl⟩ := rs
    obtain ⟨items, L, hr⟩ := S.list ea
    exact join_list L (strsAre_of hr) (Nat.le_trans hb (by decide)) fun t' k => postE_same S vS q
  | own q =>
    obtain ⟨rfl, v, rfl, r⟩ := rm
    exact q A s (v :: vs) R S (VRels.cons r rs)
end
end
section
open PySem PySem.W PySem.Calls PyProof.Rows
open scoped Classical

inductive Fl where
  | next | brk | cont
  | ret (p : PV)

noncomputable def awTruth (v : PV) (k : Bool → Prop) : Prop := match v with
  | .bool b => k b
  | _ => False

inductive awConst : Const → AH → (PV → AH → Prop) → Prop
  | int {i : Int} {H : AH} {Q : PV → AH → Prop} (q : Q (.int i) H) : awConst (.int i) H Q
  | str {x : PySem.Str} {H : AH} {Q : PV → AH → Prop} (q : Q (.str x) H) : awConst (.str x) H Q
  | bool {b : Bool} {H : AH} {Q : PV → AH → Prop} (q : Q (.bool b) H) : awConst (.bool b) H Q
  | none {H : AH} {Q : PV → AH → Prop} (q : Q .none H) : awConst .none H Q

inductive awUn : UnaryOp → PV → AH → (PV → AH → Prop) → Prop
  | neg {i : Int} {H : AH} {Q : PV → AH → Prop} (q : Q (.int (-i)) H) : awUn .USub (.int i) H Q

/-- written pairs of a dict display: int keys, texts -/
inductive CPairs : List (Option PySem.Expr) → List PySem.Expr → List (Int × PySem.Str) → Prop
  | nil : CPairs [] [] []
  | cons {k : Int} {c1 c2 d1 d2} {x : PySem.Str} {ks : List (Option PySem.Expr)} {vs : List PySem.Expr} {ps : List (Int × PySem.Str)} (h : CPairs ks vs ps) : CPairs (some (.Constant (.int k) c1 c2) :: ks) (.Constant (.str x) d1 d2 :: vs) ((k, x) :: ps)
noncomputable def pairsMap (ps : List (Int × PySem.Str)) : Int → Option PV := ps.foldl (fun m p => fun k => if k = p.1 then some (.str p.2) else m k) (fun _ => none)
inductive awDict : List (Option PySem.Expr) → List PySem.Expr → AH → (PV → AH → Prop) → Prop
  | nil {H : AH} {Q : PV → AH → Prop} (q : ∀ c, H c = none → Q (.val (.ref c)) (H.set c (.tdict (fun _ => none) 0))) : awDict [] [] H Q
  | pairs {ks : List (Option PySem.Expr)} {vs : List PySem.Expr} {ps : List (Int × PySem.Str)} {H : AH} {Q : PV → AH → Prop} (h : CPairs ks vs ps) (h0 : 0 < ps.length) (hle : ps.length ≤ 15)
      (q : ∀ c, H c = none → Q (.val (.ref c)) (H.set c (.idict (pairsMap ps) ps.length))) : awDict ks vs H Q

noncomputable def isNm (e : PySem.Expr) : Bool := Nat.beq e.ctorIdx 23
noncomputable def baseOk : PySem.Expr → Bool
  | .Call f as ks _ => !(isNm f && as.isEmpty && ks.isEmpty)
  | _ => true
noncomputable def noStar (as : List PySem.Expr) : Bool := as.all fun e => !Nat.beq e.ctorIdx 22
noncomputable def isAttr (e : PySem.Expr) : Bool := Nat.beq e.ctorIdx 20
noncomputable def isStar (e : PySem.Expr) : Bool := Nat.beq e.ctorIdx 22
noncomputable def isSlice (e : PySem.Expr) : Bool := Nat.beq e.ctorIdx 26
noncomputable def isComp (e : PySem.Expr) : Bool := Nat.ble 8 e.ctorIdx && Nat.ble e.ctorIdx 10
noncomputable def isSet (e : PySem.Expr) : Bool := Nat.beq e.ctorIdx 7

noncomputable def awCallee (C : Ctx) (f : PV) : Prop := match f with
  | .val (.builtin _) => True
  | .val (.type _) => True
  | .val (.ref f) => (C.Fn f).isSome = true ∨ f = C.KT
  | _ => False

noncomputable def rngItems (a b c : Int) : List PV := (List.range (Builtin.Range.rangeSize a b c).toNat).map fun (i : Nat) => .int (a + (i : Int) * c)

/-- what a loop goes over: what must hold at each turn, the items -/
inductive awIter : PV → AH → ((AH → Prop) → List PV → Prop) → Prop
  | tup {l : List PV} {H : AH} {k : (AH → Prop) → List PV → Prop} (q : k (fun _ => True) l) : awIter (.tup l) H k
  | lst {a : Addr} {l : List PV} {H : AH} {k : (AH → Prop) → List PV → Prop} (ea : H a = some (.list l)) (q : k (fun H' => H' a = some (.list l)) l) : awIter (.val (.ref a)) H k
  | rng {a b c : Int} {H : AH} {k : (AH → Prop) → List PV → Prop} (h : rngOk a b c) (q : k (fun _ => True) (rngItems a b c)) : awIter (.rng a b c) H k

noncomputable def awComp (B : PV → AH → (PV → AH → Prop) → Prop) (chk : AH → Prop) : List PV → AH → List PV → (List PV → AH → Prop) → Prop
  | [], H, acc, Q => chk H ∧ Q acc H
  | p :: r, H, acc, Q => chk H ∧ B p H fun v H1 => awComp B chk r H1 (acc ++ [v]) Q

/-- a comprehension's own names -/
noncomputable def compLoc (sc : Scope) (m : Loc) (x : PySem.Str) (p : PV) : Loc := fun y => if y = x then some p else if sc.names.lookup y = some .free then m y else none
noncomputable def compOk (sc out : Scope) (x : PySem.Str) : Bool :=
  (match sc.kind with | .function => true | _ => false) && decide (sc.names.lookup x = some .local) &&
  (sc.names.all fun y => decide (y.2 ≠ .cell)) && (sc.names.all fun y => !decide (y.2 = .local) || decide (sc.names.lookup y.1 = some .local)) &&
  (sc.names.all fun y => !decide (y.2 = .free) || (decide (sc.names.lookup y.1 = some .free) && decide (out.names.lookup y.1 = some .cell))) &&
  decide ((sc.names.map (·.1)).Nodup)

mutual
noncomputable def awE (C : Ctx) (n : Nat) : PySem.Expr → Scope → Loc → AH → (PV → AH → Prop) → Prop
  | .Constant c _ _, _, _, H, Q => awConst c H Q
  | .Name x _, sc, m, H, Q => (x == ("__debug__" : PySem.Str)) = false ∧ awName C sc m x H Q
  | .BinOp l op r _, sc, m, H, Q => awE C n l sc m H fun a H1 => awE C n r sc m H1 fun b H2 => awBin op a b H2 Q
  | .UnaryOp op x _, sc, m, H, Q => awE C n x sc m H fun a H1 => awUn op a H1 Q
  | .IfExp t b o _, sc, m, H, Q => awT C n t sc m H fun c H1 => if c = true then awE C n b sc m H1 Q else awE C n o sc m H1 Q
  | .BoolOp op es _, sc, m, H, Q => awB C n op es sc m H Q
  | .Compare l [op] [r] _, sc, m, H, Q => behindInMarks op r = false ∧ awE C n l sc m H fun a H1 => awE C n r sc m H1 fun b H2 => awCmp C op a b H2 Q
  | .Tuple es _ _, sc, m, H, Q => awEs C n es sc m H fun vs H1 => vs.length ≤ 1000 ∧ Q (.tup vs) H1
  | .List es _, sc, m, H, Q => awEs C n es sc m H fun vs H1 => vs.length ≤ 1000 ∧ ∀ c, H1 c = none → Q (.val (.ref c)) (H1.set c (.list vs))
  | .Dict ks vs _, _, _, H, Q => awDict ks vs H Q
  | .Attribute o x _, sc, m, H, Q => baseOk o = true ∧ awE C n o sc m H fun ov H1 => awAttr C ov x H1 Q
  | .Subscript v (.Slice lo hi st _) _, sc, m, H, Q => awE C n v sc m H fun o H1 => awO C n lo sc m H1 fun l H2 => awO C n hi sc m H2 fun u H3 => awO C n st sc m H3 fun t H4 => awSlice C o l u t H4 Q
  | .Subscript v i _, sc, m, H, Q => awE C n v sc m H fun o H1 => awE C n i sc m H1 fun k H2 => awItem C o k H2 Q
  | .Call (.Attribute o x apos) as [] pos, sc, m, H, Q => baseOk o = true ∧ apos.endLine = pos.line ∧ as.length < 30 ∧ noStar as = true ∧
      awE C n o sc m H fun ov H1 => awGetM C x ov H1 fun mid => awEs C n as sc m H1 fun vs H2 => awRunM C n mid vs H2 Q
  | .Call f as [] _, sc, m, H, Q => isAttr f = false ∧ noStar as = true ∧ awE C n f sc m H fun fv H1 => awCallee C fv ∧ awEs C n as sc m H1 fun vs H2 => awCall C n fv vs H2 Q
  | .ListComp elt [⟨.Name x _, iter, [], 0⟩] scope _, sc, m, H, Q => compOk scope sc x = true ∧ isSet iter = false ∧
      awE C n iter sc m H fun iv H1 => awIter iv H1 fun chk items => items.length ≤ 1000 ∧
        awComp (fun p H2 k => awE C n elt scope (compLoc scope m x p) H2 k) chk items H1 [] fun vs H3 => ∀ c, H3 c = none → Q (.val (.ref c)) (H3.set c (.list vs))
  | _, _, _, _, _ => False
noncomputable def awT (C : Ctx) (n : Nat) : PySem.Expr → Scope → Loc → AH → (Bool → AH → Prop) → Prop
  | .UnaryOp .Not x _, sc, m, H, Q => awT C n x sc m H fun b H1 => Q (!b) H1
  | .BoolOp op es _, sc, m, H, Q => awTs C n op es sc m H Q
  | .IfExp .., _, _, _, _ => False
  | .Compare l [op] [r] _, sc, m, H, Q => behindInMarks op r = false ∧ awE C n l sc m H fun a H1 => awE C n r sc m H1 fun b H2 => awCmp C op a b H2 fun v H3 => awTruth v fun b => Q b H3
  | .Compare .., _, _, _, _ => False
  | .Name x _, sc, m, H, Q => (x == ("__debug__" : PySem.Str)) = false ∧ awName C sc m x H fun v H3 => awTruth v fun b => Q b H3
  | .Call f as [] _, sc, m, H, Q => isAttr f = false ∧ noStar as = true ∧ awE C n f sc m H fun fv H1 => awCallee C fv ∧ awEs C n as sc m H1 fun vs H2 => awCall C n fv vs H2 fun v H3 => awTruth v fun b => Q b H3
  | _, _, _, _, _ => False
noncomputable def awTs (C : Ctx) (n : Nat) (op : BoolOp) : List PySem.Expr → Scope → Loc → AH → (Bool → AH → Prop) → Prop
  | [], _, _, H, Q => Q (op == .And) H
  | e :: r, sc, m, H, Q => awT C n e sc m H fun b H1 => match op, b with
    | .And, false => Q false H1
    | .Or, true => Q true H1
    | _, _ => awTs C n op r sc m H1 Q
noncomputable def awB (C : Ctx) (n : Nat) (op : BoolOp) : List PySem.Expr → Scope → Loc → AH → (PV → AH → Prop) → Prop
  | [], _, _, _, _ => False
  | e :: r, sc, m, H, Q => awE C n e sc m H fun v H1 => match r with
    | [] => Q v H1
    | _ :: _ => awTruth v fun b => match op, b with
      | .And, false => Q v H1
      | .Or, true => Q v H1
      | _, _ => awB C n op r sc m H1 Q
noncomputable def awEs (C : Ctx) (n : Nat) : List PySem.Expr → Scope → Loc → AH → (List PV → AH → Prop) → Prop
  | [], _, _, H, Q => Q [] H
  | e :: r, sc, m, H, Q => isStar e = false ∧ awE C n e sc m H fun v H1 => awEs C n r sc m H1 fun vs H2 => Q (v :: vs) H2
noncomputable def awO (C : Ctx) (n : Nat) : Option PySem.Expr → Scope → Loc → AH → (PV → AH → Prop) → Prop
  | none, _, _, H, Q => Q .none H
  | some e, sc, m, H, Q => awE C n e sc m H Q
end

noncomputable def stOk (sc : Scope) (x : PySem.Str) : Prop := sc.names.lookup x = some .local ∨ sc.names.lookup x = some .cell

inductive awSetItem : PV → PV → PV → AH → (AH → Prop) → Prop
  | int {a : Addr} {i : Int} {p : PV} {m : Int → Option PV} {n : Nat} {H : AH} {k : AH → Prop} (ea : H a = some (.idict m n)) (hn : n < 1000000) (q : k (H.set a (.idict (fun x => if x = i then some p else m x) (n + 1)))) : awSetItem (.val (.ref a)) (.int i) p H k
  | key {a : Addr} {ks : List PV} {p : PV} {m : List PV → Option PV} {n : Nat} {H : AH} {k : AH → Prop} (ea : H a = some (.tdict m n)) (hk : keyD 3 (.tup ks)) (hn : n < 1000000) (q : k (H.set a (.tdict (fun x => if x = ks then some p else m x) (n + 1)))) : awSetItem (.val (.ref a)) (.tup ks) p H k

inductive awNames' (sc : Scope) : List PySem.Expr → List PV → Loc → (Loc → Prop) → Prop
  | nil {m : Loc} {k : Loc → Prop} (q : k m) : awNames' sc [] [] m k
  | cons {x : PySem.Str} {xp} {ts : List PySem.Expr} {p : PV} {ps : List PV} {m : Loc} {k : Loc → Prop} (hs : stOk sc x) (q : awNames' sc ts ps (m.set x p) k) : awNames' sc (.Name x xp :: ts) (p :: ps) m k
noncomputable def awNames (ts : List PySem.Expr) (ps : List PV) (sc : Scope) (m : Loc) (k : Loc → Prop) : Prop := awNames' sc ts ps m k

inductive awA' (C : Ctx) (n : Nat) (sc : Scope) (m : Loc) (H : AH) (k : Loc → AH → Prop) : PySem.Expr → PV → Prop
  | name {x : PySem.Str} {xp} {p : PV} (hs : stOk sc x) (q : k (m.set x p) H) : awA' C n sc m H k (.Name x xp) p
  | attr {o : PySem.Expr} {x xp} {p : PV} (q : awE C n o sc m H fun ov H1 => awSetAttr C ov x p H1 (k m)) : awA' C n sc m H k (.Attribute o x xp) p
  | sub {o i : PySem.Expr} {xp} {p : PV} (hi : isSlice i = false) (q : awE C n o sc m H fun ov H1 => awE C n i sc m H1 fun iv H2 => awSetItem ov iv p H2 (k m)) : awA' C n sc m H k (.Subscript o i xp) p
  | tup {ts : List PySem.Expr} {kk xp} {ps : List PV} (q : awNames ts ps sc m fun m' => k m' H) : awA' C n sc m H k (.Tuple ts kk xp) (.tup ps)
noncomputable def awA (C : Ctx) (n : Nat) (t : PySem.Expr) (p : PV) (sc : Scope) (m : Loc) (H : AH) (k : Loc → AH → Prop) : Prop := awA' C n sc m H k t p
theorem awA_name {C : Ctx} {n : Nat} {sc : Scope} {m : Loc} {H : AH} {k : Loc → AH → Prop} {x : PySem.Str} {xp} {p : PV} : awA C n (.Name x xp) p sc m H k = (stOk sc x ∧ k (m.set x p) H) :=
  propext ⟨fun h => by cases h with | name hs q => exact ⟨hs, q⟩, fun h => .name h.1 h.2⟩

noncomputable def awLoop (B : Loc → AH → (Fl → Loc → AH → Prop) → Prop) (asg : PV → Loc → AH → (Loc → AH → Prop) → Prop) (chk : AH → Prop) : List PV → Loc → AH → (Fl → Loc → AH → Prop) → Prop
  | [], m, H, Q => chk H ∧ Q .next m H
  | p :: r, m, H, Q => chk H ∧ asg p m H fun m1 H1 => B m1 H1 fun fl m2 H2 => match fl with
    | .next | .cont => awLoop B asg chk r m2 H2 Q
    | .brk => Q .next m2 H2
    | .ret v => Q (.ret v) m2 H2

noncomputable def isTupList (e : PySem.Expr) : Bool := Nat.ble 24 e.ctorIdx && Nat.ble e.ctorIdx 25
noncomputable def swapName (sc : Scope) (x : PySem.Str) (xp : Pos) (scope : Scope) (cp : Pos) : Prop :=
  sc.names.lookup x = some .local ∧ xp.line = cp.line ∧ (scope.names.any fun (n, k) => n == x && (k == .local || k == .cell)) = false
noncomputable def isNameOrTup (e : PySem.Expr) : Bool := Nat.beq e.ctorIdx 23 || Nat.beq e.ctorIdx 25

mutual
noncomputable def awS (C : Ctx) (n : Nat) : PySem.Stmt → Scope → Loc → AH → (Fl → Loc → AH → Prop) → Prop
  | .Expr v _, sc, m, H, Q => isComp v = false ∧ awE C n v sc m H fun _ H1 => Q .next m H1
  | .Pass _, _, m, H, Q => Q .next m H
  | .Return none _, _, m, H, Q => Q (.ret .none) m H
  | .Return (some e) _, sc, m, H, Q => awE C n e sc m H fun p H1 => Q (.ret p) m H1
  | .Assign [.Name x xp] (.ListComp elt gens scope cp) _, sc, m, H, Q => (stOk sc x ∧ swapName sc x xp scope cp) ∧ awE C n (.ListComp elt gens scope cp) sc m H fun p H1 => Q .next (m.set x p) H1
  | .Assign [t] v _, sc, m, H, Q => isComp v = false ∧ isTupList t = false ∧ awE C n v sc m H fun p H1 => awA C n t p sc m H1 fun m' H2 => Q .next m' H2
  | .AugAssign (.Name x _) .Add v _, sc, m, H, Q => stOk sc x ∧ ∃ old, m x = some (.int old) ∧ awE C n v sc m H fun p H1 => ∃ j, p = .int j ∧ Q .next (m.set x (.int (old + j))) H1
  | .If t b o _, sc, m, H, Q => awT C n t sc m H fun c H1 => if c = true then awSs C n b sc m H1 Q else awSs C n o sc m H1 Q
  | .While t b [] _, sc, m, H, Q => ∃ I : Nat → Loc → AH → Prop, (∃ k, I k m H) ∧ ∀ k m1 H1, I k m1 H1 → awT C n t sc m1 H1 fun c H2 => if c = true then
      awSs C n b sc m1 H2 (fun fl m3 H3 => match fl with
        | .next | .cont => ∃ j, j < k ∧ I j m3 H3
        | .brk => Q .next m3 H3
        | .ret p => Q (.ret p) m3 H3)
      else Q .next m1 H2
  | .For t it b [] _, sc, m, H, Q => isSet it = false ∧ isNameOrTup t = true ∧ awE C n it sc m H fun iv H1 => awIter iv H1 fun chk items =>
      awLoop (fun m1 H2 k => awSs C n b sc m1 H2 k) (fun p m1 H2 k => awA C n t p sc m1 H2 k) chk items m H1 Q
  | _, _, _, _, _ => False
noncomputable def awSs (C : Ctx) (n : Nat) : List PySem.Stmt → Scope → Loc → AH → (Fl → Loc → AH → Prop) → Prop
  | [], _, m, H, Q => Q .next m H
  | s :: r, sc, m, H, Q => awS C n s sc m H fun fl m1 H1 => match fl with
    | .next => awSs C n r sc m1 H1 Q
    | fl => Q fl m1 H1
end
end
section
open PySem PySem.W PySem.Calls PyProof.Rows
open scoped Classical

inductive Src where
  | lst (a : Addr) (l : List PV)
  | tup (l : List PV)
  | rng (a b c : Int)

noncomputable def Src.items : Src → List PV
  | .lst _ l => l
  | .tup l => l
  | .rng a b c => rngItems a b c
noncomputable def Src.chk : Src → AH → Prop
  | .lst a l => fun H => H a = some (.list l)
  | _ => fun _ => True
noncomputable def Src.of : Src → PV → AH → Prop
  | .lst a l, iv, H => iv = .val (.ref a) ∧ H a = some (.list l)
  | .tup l, iv, _ => iv = .tup l
  | .rng a b c, iv, _ => iv = .rng a b c ∧ rngOk a b c

theorem awIter_src {iv : PV} {H : AH} {k : (AH → Prop) → List PV → Prop} (h : awIter iv H k) : ∃ src : Src, src.of iv H ∧ k src.chk src.items := by
  cases h with
  | @tup l _ _ q => exact ⟨.tup l, rfl, q⟩
  | @lst a l _ _ ea q => exact ⟨.lst a l, ⟨rfl, ea⟩, q⟩
  | @rng a b c _ _ h q => exact ⟨.rng a b c, ⟨rfl, h⟩, q⟩

theorem Src.of_chk {src : Src} {iv : PV} {H : AH} (h : src.of iv H) : src.chk H := by
  cases src with
  | lst a l => exact h.2
  | tup l => trivial
  | rng a b c => trivial

noncomputable def IterAt (h : Heap) (it : Addr) (i : Nat) : Src → Prop
  | .lst a _ => h.IsListIter it a i
  | .tup l => ∃ t items, h.IsTupleIter it t i ∧ h.IsTuple t items ∧ VRels h l items.toList
  | .rng a b c => rngOk a b c ∧ IsRangeIter h it (a + (i : Int) * c) (Builtin.Range.rangeSize a b c - i) c ∧ i ≤ (rngItems a b c).length

theorem rngOk.size {a b c : Int} (h : rngOk a b c) : 0 ≤ Builtin.Range.rangeSize a b c ∧ Builtin.Range.rangeSize a b c ≤ 200000 := by
  obtain ⟨h1, h2, h3⟩ := h
  unfold Builtin.Range.rangeSize
  rcases h3 with rfl | rfl
  · rw [if_pos (by decide)]
    split
    · rw [Int.ediv_one]; omega
    · omega
  · rw [if_neg (by decide)]
    split
    · rw [show -(-1 : Int) = 1 from rfl, Int.ediv_one]; omega
    · omega
theorem rngOk.small {a b c : Int} (h : rngOk a b c) : Builtin.Range.small a b c = true := by
  have hs := h.size
  obtain ⟨h1, h2, h3⟩ := h
  unfold Builtin.Range.small
  simp only [Builtin.Range.rangeFitsLong, Bool.and_eq_true, Bool.or_eq_true, decide_eq_true_eq, beq_iff_eq]
  refine ⟨⟨⟨⟨⟨?_, ?_⟩, ?_, ?_⟩, ?_, ?_⟩, ?_, ?_⟩, ?_⟩ <;> (try omega)
  right
  split <;> simp only [decide_eq_true_eq, Bool.and_eq_true] <;> omega
theorem rngItems_length {a b c : Int} (h : rngOk a b c) : ((rngItems a b c).length : Int) = Builtin.Range.rangeSize a b c := by
  have := h.size
  unfold rngItems
  rw [List.length_map, List.length_range]; omega

section
variable {C : Ctx} {A : Around} {H : AH} {s : Shared} {n : Nat}

theorem isListIter_at {h h' : Heap} {it a : Addr} {i : Nat} (x : h.IsListIter it a i) (e : h'.get? it = h.get? it) : h'.IsListIter it a i := let ⟨o, ho, r⟩ := x; ⟨o, e.trans ho, r⟩
theorem isTupIter_at {h h' : Heap} {it a : Addr} {i : Nat} (x : h.IsTupleIter it a i) (e : h'.get? it = h.get? it) : h'.IsTupleIter it a i := let ⟨o, ho, r⟩ := x; ⟨o, e.trans ho, r⟩

theorem IterAt.mono {h h' : Heap} {it : Addr} {i : Nat} {src : Src} (x : IterAt h it i src) (im : Imm h h') (e : h'.get? it = h.get? it) : IterAt h' it i src := by
  cases src with
  | lst a l => exact isListIter_at x e
  | tup l => obtain ⟨t, items, h1, h2, h3⟩ := x; exact ⟨t, items, isTupIter_at h1 e, im.tup _ _ h2, h3.mono im⟩
  | rng a b c => obtain ⟨h0, h1, h2⟩ := x; exact ⟨h0, e.trans h1, h2⟩
theorem IterAt.obj {h : Heap} {it : Addr} {i : Nat} {src : Src} (x : IterAt h it i src) : ∃ o, h.get? it = some o ∧ (∀ items, ¬ h.IsTuple it items) ∧ ∀ a b c t u w, ¬ IsRange h it a b c t u w := by
  cases src with
  | lst a l =>
    obtain ⟨o, ho, hc, hd⟩ := x
    exact ⟨o, ho, (fun items ⟨o', ho', _, _, hd'⟩ => by rw [ho] at ho'; cases ho'; rw [hd] at hd'; cases hd'), fun a b c t u w e => by rw [e] at ho; cases ho; simp at hc⟩
  | tup l =>
    obtain ⟨t, items, ⟨o, ho, hc, hd⟩, _⟩ := x
    exact ⟨o, ho, (fun items ⟨o', ho', _, _, hd'⟩ => by rw [ho] at ho'; cases ho'; rw [hd] at hd'; cases hd'), fun a b c t u w e => by rw [e] at ho; cases ho; simp at hc⟩
  | rng a b c =>
    obtain ⟨_, ho, _⟩ := x
    exact ⟨_, ho, (fun items ⟨o', ho', _, _, hd'⟩ => by rw [ho] at ho'; cases ho'; cases hd'), fun a b c t u w e => by unfold IsRangeIter at ho; rw [e] at ho; simp at ho⟩

theorem iter_sound {src : Src} {iv : PV} {v : Value} {Q : Value → Shared → Prop} (S : St C H s) (r : VRel s.heap iv v) (h : src.of iv H)
    (q : ∀ it h', s.heap.get? it = none → s.heap.objs.size ≤ it → (∀ b o, s.heap.get? b = some o → h'.get? b = some o) → IterAt h' it 0 src → Q (.ref it) { s with heap := h' }) :
    wpAny (model C.prog C.w) A (pyIter v) Q NoE s := by
  have fr : s.heap.get? s.heap.objs.size = none := Heap.get?_none_of_le (Nat.le_refl _)
  cases src with
  | lst a l =>
    obtain ⟨rfl, e⟩ := h
    simp only [VRel] at r; subst r
    obtain ⟨items, L, hr⟩ := S.list e
    exact wpAny_pyIter_list L (q _ _ fr (Nat.le_refl _) (push_keeps _) ⟨_, Heap.get?_push_size _ rfl, rfl, rfl⟩)
  | tup l =>
    have h : iv = .tup l := h
    subst h
    simp only [VRel] at r
    obtain ⟨t, items, rfl, ht, hr⟩ := r
    exact wpAny_pyIter_tuple ht (q _ _ fr (Nat.le_refl _) (push_keeps _) ⟨t, items, ⟨_, Heap.get?_push_size _ rfl, rfl, rfl⟩, ht.push _, hr.mono (Imm.of_keeps (push_keeps _))⟩)
  | rng a b c =>
    obtain ⟨rfl, hk⟩ := h
    simp only [VRel] at r
    obtain ⟨x, t, u, w, rfl, hr⟩ := r
    refine wpAny_pyIter_range hr hk.small (q _ _ fr (Nat.le_refl _) (push_keeps _) ⟨hk, ?_, Nat.zero_le _⟩)
    have := Heap.get?_push_size s.heap (o := { cls := .type "range_iterator", data := .fields #[rawInt a, rawInt (Builtin.Range.rangeSize a b c), rawInt c] }) rfl
    simpa using this

/-- one turn's draw -/
theorem next_sound {src : Src} {it : Addr} {i : Nat} {Q : Option Value → Shared → Prop} (hh : A.handled = none) (S : St C H s) (hc : src.chk H) (x : IterAt s.heap it i src)
    (item : ∀ p v h' t, src.items[i]? = some p → VRel h' p v → Heap.SameBut it s.heap h' → IterAt h' it (i + 1) src → Q (some v) { s with heap := h', toks := t })
    (stop : ∀ h' t, src.items[i]? = none → Heap.ExtBut it s.heap h' → Q none { s with heap := h', toks := t }) :
    wpAny (model C.prog C.w) A (pyNext (.ref it)) Q NoE s := by
  obtain ⟨ob, hob, nt, nr⟩ := x.obj
  cases src with
  | lst a l =>
    have hc : H a = some (.list l) := hc
    obtain ⟨items, L, hr⟩ := S.list hc
    have hl : l.length = items.size := by rw [← Array.length_toList]; exact hr.length
    cases e : l[i]? with
    | none =>
      have e' : items[i]? = none := by rw [List.getElem?_eq_none_iff] at e; rw [Array.getElem?_eq_none]; omega
      exact wpAny_pyNext_list_end hh x L e' fun h' hs => stop h' _ e hs
    | some p =>
      obtain ⟨v, hv, hrv⟩ := hr.get e
      refine wpAny_pyNext_list_item x L (x := v) (by simpa using hv) fun h' hit hs => item p v h' _ e (hrv.mono (Imm.of_sameBut hs nt nr)) hs hit
  | tup l =>
    obtain ⟨t, items, h1, h2, hr⟩ := x
    have hl : l.length = items.size := by rw [← Array.length_toList]; exact hr.length
    cases e : l[i]? with
    | none =>
      have e' : items[i]? = none := by rw [List.getElem?_eq_none_iff] at e; rw [Array.getElem?_eq_none]; omega
      exact wpAny_pyNext_tuple_end hh h1 h2 e' fun h' hs => stop h' _ e hs
    | some p =>
      obtain ⟨v, hv, hrv⟩ := hr.get e
      refine wpAny_pyNext_tuple_item h1 h2 (x := v) (by simpa using hv) fun h' hit hs => ?_
      have im := Imm.of_sameBut hs nt nr
      exact item p v h' _ e (hrv.mono im) hs ⟨t, items, hit, im.tup _ _ h2, hr.mono im⟩
  | rng a b c =>
    obtain ⟨hk, h1, hle⟩ := x
    have hlen := rngItems_length hk
    cases e : (rngItems a b c)[i]? with
    | none =>
      have : (rngItems a b c).length ≤ i := List.getElem?_eq_none_iff.mp e
      exact wpAny_pyNext_range_end hh h1 (by omega) fun h' hs => stop h' _ e hs
    | some p =>
      have hlt := (List.getElem?_eq_some_iff.mp e).1
      refine wpAny_pyNext_range_item h1 (by omega) fun h' hit hs => ?_
      have hp : p = .int (a + (i : Int) * c) := by
        unfold rngItems at e
        rw [List.getElem?_map] at e
        obtain ⟨j, hj, rfl⟩ := Option.map_eq_some_iff.mp e
        have := (List.getElem?_eq_some_iff.mp hj).2
        simp only [List.getElem_range] at this
        subst this; rfl
      subst hp
      refine item _ _ h' _ e (by simp only [VRel]; exact ⟨_, rfl⟩) hs ⟨hk, ?_, by omega⟩
      have e1 : a + (i : Int) * c + c = a + ((i + 1 : Nat) : Int) * c := by
        rw [Int.natCast_add, Int.add_mul]; omega
      have e2 : Builtin.Range.rangeSize a b c - (i : Int) - 1 = Builtin.Range.rangeSize a b c - ((i + 1 : Nat) : Int) := by omega
      rw [e1, e2] at hit
      exact hit
end
end
section
open PySem PySem.W PySem.Calls PyProof.Rows
open scoped Classical

theorem closureFor_some {env : Env} : ∀ {scope : Scope}, (∀ y ∈ scope.names, y.2 = .free → ∃ c, env.cells.lookup y.1 = some c) →
    ∃ cl, closureFor scope env = pure cl ∧ (∀ x c, cl.lookup x = some c → env.cells.lookup x = some c) ∧ ∀ y ∈ scope.names, y.2 = .free → ∃ c, cl.lookup y.1 = some c := by
  intro scope h
  have main : ∀ (names : List (PySem.Str × NameKind)) (acc : List (PySem.Str × Addr)) (f : PySem.Str × NameKind → List (PySem.Str × Addr) → Sem (ForInStep (List (PySem.Str × Addr)))),
      (∀ y cs, f y cs = if y.2 == .free then (do let a ← cellOf env y.1; pure (.yield ((y.1, a) :: cs))) else pure (.yield cs)) →
      (∀ y ∈ names, y.2 = .free → ∃ c, env.cells.lookup y.1 = some c) → (∀ x c, acc.lookup x = some c → env.cells.lookup x = some c) →
      ∃ cl, forIn names acc f = pure cl ∧ (∀ x c, cl.lookup x = some c → env.cells.lookup x = some c) ∧ (∀ x c, acc.lookup x = some c → ∃ c', cl.lookup x = some c') ∧ ∀ y ∈ names, y.2 = .free → ∃ c, cl.lookup y.1 = some c := by
    intro names
    induction names with
    | nil => intro acc f _ _ ha; exact ⟨acc, by rw [List.forIn_nil], ha, fun x c e => ⟨c, e⟩, fun y hy => by cases hy⟩
    | cons y r ih =>
      intro acc f hf hn ha
      by_cases hk : y.2 = .free
      · obtain ⟨c, hc⟩ := hn y (by simp) hk
        have hc' : cellOf env y.1 = pure c := by unfold cellOf; rw [hc]
        obtain ⟨cl, h1, h2, h3, h4⟩ := ih ((y.1, c) :: acc) f hf (fun z hz => hn z (by simp [hz])) (fun x d e => by
          rw [List.lookup_cons] at e
          cases hx : x == y.1 with
          | true => rw [hx] at e; cases e; rw [beq_iff_eq.mp hx]; exact hc
          | false => rw [hx] at e; exact ha x d e)
        refine ⟨cl, ?_, h2, fun x d e => ?_, fun z hz hzk => ?_⟩
        · rw [List.forIn_cons, hf, if_pos (by rw [hk]; rfl), hc', ← h1]; rfl
        · cases hx : x == y.1 with
          | true => exact h3 x c (by rw [List.lookup_cons, hx])
          | false => exact h3 x d (by rw [List.lookup_cons, hx]; exact e)
        · rcases List.mem_cons.mp hz with rfl | hz
          · exact h3 _ c (by simp)
          · exact h4 z hz hzk
      · obtain ⟨cl, h1, h2, h3, h4⟩ := ih acc f hf (fun z hz => hn z (by simp [hz])) ha
        refine ⟨cl, ?_, h2, h3, fun z hz hzk => ?_⟩
        · rw [List.forIn_cons, hf, if_neg (by simpa using hk), ← h1]; rfl
        · rcases List.mem_cons.mp hz with rfl | hz
          · exact absurd hzk hk
          · exact h4 z hz hzk
  obtain ⟨cl, h1, h2, _, h4⟩ := main scope.names [] (fun y cs => match y with | (name, kind) => if kind == .free then (do let a ← cellOf env name; pure (.yield ((name, a) :: cs))) else pure (.yield cs)) (fun y cs => rfl) h (fun x c e => by cases e)
  refine ⟨cl, ?_, h2, h4⟩
  have e : closureFor scope env = (forIn scope.names [] (fun (y : PySem.Str × NameKind) (cs : List (PySem.Str × Addr)) => match y with | (name, kind) => if kind == .free then (do let a ← cellOf env name; pure (.yield ((name, a) :: cs))) else pure (.yield cs)) >>= fun cs => pure cs) := rfl
  rw [e, h1]
  rfl

theorem relabel_lookup (scope : Scope) (env : Env) (y : PySem.Str) : (relabel scope env).names.lookup y = (scope.names.lookup y).map fun k => if (k == .free && env.scope.kind == .function && env.kindOf y == some .cell) then .cell else k := by
  unfold relabel
  dsimp only
  generalize scope.names = names
  induction names with
  | nil => rfl
  | cons z r ih =>
    obtain ⟨x, k⟩ := z
    rw [List.map_cons]
    cases hy : y == x with
    | true =>
      have e := beq_iff_eq.mp hy
      subst e
      by_cases hc : (k == NameKind.free && env.scope.kind == .function && env.kindOf y == some NameKind.cell) = true
      · simp only [if_pos hc, List.lookup_cons, beq_self_eq_true, Option.map_some]
      · simp only [if_neg hc, List.lookup_cons, beq_self_eq_true, Option.map_some]
    | false =>
      by_cases hc : (k == NameKind.free && env.scope.kind == .function && env.kindOf x == some NameKind.cell) = true
      · simp only [if_pos hc, List.lookup_cons, hy]; exact ih
      · simp only [if_neg hc, List.lookup_cons, hy]; exact ih

noncomputable def freeLoc (sc : Scope) (m : Loc) : Loc := fun y => if sc.names.lookup y = some .free then m y else none
theorem compLoc_eq (sc : Scope) (m : Loc) (x : PySem.Str) (p : PV) : compLoc sc m x p = (freeLoc sc m).set x p := rfl

theorem FRel.weaken {C : Ctx} {env : Env} {H : AH} {h : Heap} {m m' : Loc} (F : FRel C env H h m) (k : ∀ x p, m' x = some p → m x = some p) : FRel C env H h m' where
  kind := F.kind
  glob := F.glob
  blt := F.blt
  lo := F.lo
  lH := F.lH
  ns := let ⟨mm, h1, h2⟩ := F.ns; ⟨mm, h1, fun x p e => h2 x p (k x p e)⟩
  names := fun x p e => F.names x p (k x p e)
  cell := F.cell
  apart := F.apart
  call := F.call

structure CompOk (sc out : Scope) (x : PySem.Str) : Prop where
  kind : sc.kind = .function
  tgt : sc.names.lookup x = some .local
  nocell : ∀ y ∈ sc.names, y.2 ≠ .cell
  loc : ∀ y ∈ sc.names, y.2 = .local → sc.names.lookup y.1 = some .local
  free : ∀ y ∈ sc.names, y.2 = .free → sc.names.lookup y.1 = some .free ∧ out.names.lookup y.1 = some .cell

theorem compOk_spec {sc out : Scope} {x : PySem.Str} (h : compOk sc out x = true) : CompOk sc out x := by
  unfold compOk at h
  simp only [Bool.and_eq_true, List.all_eq_true, decide_eq_true_eq, Bool.or_eq_true, Bool.not_eq_true', decide_eq_false_iff_not] at h
  obtain ⟨⟨⟨⟨⟨h1, h2⟩, h3⟩, h4⟩, h5⟩, _⟩ := h
  refine ⟨?_, h2, h3, fun y hy e => (h4 y hy).resolve_left (fun n => n e), fun y hy e => (h5 y hy).resolve_left (fun n => n e)⟩
  cases hk : sc.kind <;> simp_all

theorem mem_of_lookup' {α : Type} {l : List (PySem.Str × α)} {x : PySem.Str} {a : α} (h : l.lookup x = some a) : (x, a) ∈ l := mem_of_lookup h

/-- the frame of a comprehension -/
theorem comp_frame {C : Ctx} {env : Env} {H H' : AH} {h h' : Heap} {m : Loc} {scope sc : Scope} {x : PySem.Str} {Cl : Addr} {cl : List (PySem.Str × Addr)} {mm : PySem.Str → Option Value} (F : FRel C env H h m) (hsc : ScOk env sc) (ok : CompOk scope sc x)
    (h2 : ∀ x c, cl.lookup x = some c → env.cells.lookup x = some c) (h3 : ∀ y ∈ scope.names, y.2 = .free → ∃ c, cl.lookup y.1 = some c)
    (st : Stp NoW H h H' h') (hC : H' Cl = none) (hCb : C.hb.get? Cl = none) (hn : h'.Ns Cl mm) (fr : h.get? Cl = none) : FRel C (compEnvC scope cl Cl env) H' h' (freeLoc scope m) := by
  have F' := F.stp0 st
  have kc : ∀ y, scope.names.lookup y = some .free → (compEnvC scope cl Cl env).kindOf y = some .cell := fun y hy => by
    show (relabel scope env).names.lookup y = some .cell
    have hc := hsc.cell y (ok.free (y, .free) (mem_of_lookup hy) rfl).2
    rw [relabel_lookup, hy, Option.map_some, if_pos (by rw [F.kind, hc]; rfl)]
  refine ⟨ok.kind, F.glob, F.blt, hCb, hC, ⟨mm, hn, fun y p e k => ?_⟩, fun y p e => ?_, fun y c e => ?_, fun y z c e1 e2 => F.apart y z c (h2 y c e1) (h2 z c e2), fun y k => ?_⟩
  · unfold freeLoc at e
    split at e
    · rename_i hy; rw [kc y hy] at k; cases k
    · cases e
  · unfold freeLoc at e
    split at e
    · rename_i hy
      refine .inr ⟨.inl (kc y hy), ?_⟩
      obtain ⟨c, hc⟩ := h3 (y, .free) (mem_of_lookup hy) rfl
      have hcell := hsc.cell y (ok.free (y, .free) (mem_of_lookup hy) rfl).2
      rcases F'.names y p e with hk | ⟨_, c', v, hc', hv, hr⟩
      · rw [hcell] at hk; cases hk
      · have := h2 y c hc
        rw [hc'] at this; cases this
        exact ⟨_, v, hc, hv, hr⟩
    · cases e
  · obtain ⟨g1, g2, g3, v, hv⟩ := F'.cell y c (h2 y c e)
    refine ⟨g1, g2, ?_, v, hv⟩
    rintro rfl
    obtain ⟨_, _, _, w, o, ho, _⟩ := F.cell y c (h2 y c e)
    rw [ho] at fr; cases fr
  · have k' : (relabel scope env).names.lookup y = some .cell := k
    rw [relabel_lookup] at k'
    obtain ⟨k0, hk0, e⟩ := Option.map_eq_some_iff.mp k'
    split at e
    · rename_i hc
      simp only [Bool.and_eq_true, beq_iff_eq] at hc
      obtain ⟨⟨rfl, _⟩, _⟩ := hc
      exact h3 (y, .free) (mem_of_lookup hk0) rfl
    · subst e
      exact absurd rfl (ok.nocell (y, .cell) (mem_of_lookup hk0))

theorem comp_sc {env : Env} {scope sc : Scope} {x : PySem.Str} {Cl : Addr} {cl : List (PySem.Str × Addr)} (ok : CompOk scope sc x) : ScOk (compEnvC scope cl Cl env) scope where
  glob := fun y e => by
    show (relabel scope env).names.lookup y = _
    rw [relabel_lookup, e]; rfl
  cell := fun y e => absurd rfl (ok.nocell (y, .cell) (mem_of_lookup e))

section
variable {C : Ctx} {A : Around} {H : AH} {s : Shared} {n : Nat}

/-- a change at a thing that the abstract heap does not bear -/
theorem St.side (S : St C H s) {h' : Heap} {t : Nat} {a : Addr} (hH : H a = none) (hb : C.hb.get? a = none) (hs : ∀ b o, b ≠ a → s.heap.get? b = some o → h'.get? b = some o)
    (nt : ∀ items, ¬ s.heap.IsTuple a items) (nr : ∀ x y z t u w, ¬ IsRange s.heap a x y z t u w) : St C H { s with heap := h', toks := t } ∧ Stp (fun b => b = a) H s.heap H h' := by
  have i : Imm s.heap h' := ⟨fun b items htb => by
      by_cases e : b = a
      · subst e; exact absurd htb (nt items)
      · obtain ⟨o, ho, r⟩ := htb; exact ⟨o, hs b o e ho, r⟩, fun r x y z t u w hr => by
      by_cases e : r = a
      · subst e; exact absurd hr (nr x y z t u w)
      · exact hs r _ e hr⟩
  refine ⟨⟨fun b o e => hs b o (by rintro rfl; rw [hb] at e; cases e) (S.keep b o e), fun b o e => (S.rep b o e).mono i fun ob h => hs b ob (by rintro rfl; rw [hH] at e; cases e) h, S.new, S.gens, S.drawn, S.os⟩,
    ⟨i, fun b o e _ w => hs b o w e, fun _ _ _ e => e, fun b e w => ?_⟩⟩
  obtain ⟨o, ho⟩ := Option.isSome_iff_exists.mp e
  rw [hs b o w ho]; rfl

theorem Stp.narrow {W : Addr → Prop} {H H' : AH} {h h' : Heap} (x : Stp W H h H' h') (k : ∀ a, (h.get? a).isSome = true → ¬ W a) : Stp NoW H h H' h' :=
  ⟨x.imm, fun a o e n _ => x.frm a o e n (k a (by rw [e]; rfl)), fun a e _ => x.dom a e (k a e), fun a e _ => x.live a e (k a e)⟩
end
end
section
open PySem PySem.W PySem.Calls PyProof.Rows
open scoped Classical

theorem St.adopt {C : Ctx} {H : AH} {s : Shared} (S : St C H s) {a : Addr} {o : AObj} (hb : C.hb.get? a = none) (hm : a ≠ sysModules) (r : ORel C s.heap a o) : St C (H.set a o) s :=
  ⟨S.keep, fun b o' e => by
    unfold AH.set at e
    by_cases q : b = a
    · subst q; rw [if_pos rfl] at e; cases e; exact r
    · rw [if_neg q] at e; exact S.rep b o' e, fun b o' e => by
    unfold AH.set at e
    by_cases q : b = a
    · subst q; exact ⟨hb, hm⟩
    · rw [if_neg q] at e; exact S.new b o' e, S.gens, S.drawn, S.os⟩
theorem Stp.adopt {W : Addr → Prop} {H H' : AH} {h h' : Heap} (x : Stp W H h H' h') {a : Addr} (o : AObj) (fr : h.get? a = none) : Stp W H h (H'.set a o) h' :=
  ⟨x.imm, x.frm, fun b e w n => by
    unfold AH.set
    rw [if_neg (by rintro rfl; rw [fr] at e; cases e)]
    exact x.dom b e w n, x.live⟩

theorem awComp_chk {B : PV → AH → (PV → AH → Prop) → Prop} {chk : AH → Prop} {l : List PV} {H : AH} {acc : List PV} {Q : List PV → AH → Prop} (h : awComp B chk l H acc Q) : chk H := by
  cases l <;> exact h.1

structure CInv (C : Ctx) (cenv : Env) (src : Src) (it D : Addr) (mf : Loc) (H₀ : AH) (h₀ : Heap) (B : PV → AH → (PV → AH → Prop) → Prop) (Q : List PV → AH → Prop) (i : Nat) (H : AH) (vs : List PV) (s : Shared) : Prop where
  S : St C H s
  F : FRel C cenv H s.heap mf
  T : Stp (fun b => b = it ∨ b = D ∨ b = cenv.locals) H₀ h₀ H s.heap
  I : IterAt s.heap it i src
  hi : H it = none
  hD : H D = none
  oD : ∃ items n, s.heap.get? D = some { cls := .type "list", data := .seq items n } ∧ VRels s.heap vs items.toList
  len : vs.length ≤ i
  le : i ≤ src.items.length
  run : awComp B src.chk (src.items.drop i) H vs Q

section
variable {C : Ctx} {A : Around}

theorem comp_loop {elt iter : PySem.Expr} {x : PySem.Str} {px : Pos} {scope : Scope} {pos : Pos} {src : Src} {it D : Addr} {cenv : Env} {mf : Loc} {B : PV → AH → (PV → AH → Prop) → Prop} {R : Result → Shared → Prop} {Q : List PV → AH → Prop} {H₀ : AH} {h₀ : Heap}
    (hh : A.handled = none) (hx : cenv.kindOf x = some .local) (mx : mf x = none) (hw : ∀ a, WE cenv a → a ≠ it ∧ a ≠ D) (itD : it ≠ D) (hbI : C.hb.get? it = none) (hbD : C.hb.get? D = none) (hlen : src.items.length ≤ 1000)
    (hB : ∀ s p H Q, FRel C cenv H s.heap (mf.set x p) → St C H s → B p H Q → wpAny (model C.prog C.w) A (eval elt cenv) (PostE C H s Q) NoE s)
    (hR : ∀ s' H' vs, St C H' s' → FRel C cenv H' s'.heap mf → Stp (fun b => b = it ∨ b = D ∨ b = cenv.locals) H₀ h₀ H' s'.heap → H' D = none →
      (∃ items n, s'.heap.get? D = some { cls := .type "list", data := .seq items n } ∧ VRels s'.heap vs items.toList) → Q vs H' → R (.ok .next) s')
    (s : Shared) (i : Nat) (H : AH) (vs : List PV) (inv : CInv C cenv src it D mf H₀ h₀ B Q i H vs s) :
    codeAny (model C.prog C.w) A (.compLoop (.ListComp elt [⟨.Name x px, iter, [], 0⟩] scope pos) 0 (.ref it) (.ref D) cenv) R s := by
  have sl := line_is
  refine codeAny_compLoop_list (fun n s => ∃ i H vs, n = src.items.length - i ∧ CInv C cenv src it D mf H₀ h₀ B Q i H vs s) (fun n s ⟨i, H, vs, hn, inv⟩ => ?_) (src.items.length - i) ⟨i, H, vs, rfl, inv⟩
  obtain ⟨S, F, T, I, hi, hD, ⟨items, nn, ho, hr⟩, len, le, run⟩ := inv
  obtain ⟨obI, hobI, nt, nr⟩ := I.obj
  refine wpAny_mono (Q := fun r s₁ => match r with
      | none => R (.ok .next) s₁
      | some v => wpAny (model C.prog C.w) A (assign (.Name x px) cenv v) (fun _ s₂ => wpAny (model C.prog C.w) A (eval elt cenv) (fun y s₃ =>
          wpAny (model C.prog C.w) A (call (.builtin "list.append") [.ref D, y]) (fun _ s₄ => ∃ m, m < n ∧ ∃ i H vs, m = src.items.length - i ∧ CInv C cenv src it D mf H₀ h₀ B Q i H vs s₄) NoE s₃) NoE s₂) NoE s₁)
    (E := NoE) ?_ ?_ (fun _ _ f => f.elim)
  · refine next_sound hh S (awComp_chk run) I (fun p v h' t hp rv hs I' => ?_) (fun h' t hp hs => ?_)
    · have hil : i < src.items.length := (List.getElem?_eq_some_iff.mp hp).1
      have hd : src.items.drop i = p :: src.items.drop (i + 1) := by
        rw [List.drop_eq_getElem_cons hil, (List.getElem?_eq_some_iff.mp hp).2]
      rw [hd] at run
      obtain ⟨_, run⟩ := run
      obtain ⟨S1, T1⟩ := S.side (t := t) hi hbI (fun b o hb e => (hs.2 b hb).trans e) nt nr
      have F1 := F.stp T1 (fun a ha => (hw a ha).1)
      have hD1 : h'.get? D = some _ := (hs.2 D (Ne.symm itD)).trans ho
      refine wpAny_assign_Name (store_local S1 F1 hx rv fun s2 S2 T2 F2 => ?_)
      have hD2 := T2.frm D _ hD1 hD (fun e => (hw cenv.locals (.inl rfl)).2 e.symm)
      have I2 : IterAt s2.heap it (i + 1) src := I'.mono T2.imm (by
        obtain ⟨o, ho', _⟩ := I'.obj
        rw [T2.frm it _ ho' hi (fun e => (hw cenv.locals (.inl rfl)).1 e.symm), ho'])
      refine wpAny_mono (hB s2 p H _ F2 S2 run) (fun y s3 ⟨q, H3, rq, S3, T3, run3⟩ => ?_) fun _ _ f => f.elim
      have lD2 : (s2.heap.get? D).isSome = true := by rw [hD2]; rfl
      have lI2 : (s2.heap.get? it).isSome = true := by obtain ⟨o, ho', _⟩ := I2.obj; rw [ho']; rfl
      have hD3 := T3.frm D _ hD2 hD id
      have HD3 : H3 D = none := T3.dom D lD2 id hD
      have HI3 : H3 it = none := T3.dom it lI2 id hi
      have I3 : IterAt s3.heap it (i + 1) src := I2.mono T3.imm (by
        obtain ⟨o, ho', _⟩ := I2.obj
        rw [T3.frm it _ ho' hi id, ho'])
      have hr3 : VRels s3.heap vs items.toList := ((hr.mono T1.imm).mono T2.imm).mono T3.imm
      have hl : vs.length = items.size := by rw [← Array.length_toList]; exact hr.length
      have hT : s3.TypeIs (.ref D) "list" := ⟨_, hD3, rfl⟩
      refine wpAny_call_entry slot_list_append hT entry_list_append ?_ (args_list_append _ _)
      show wpAny _ _ (updateSeq D (·.push y) >>= fun _ => ret .none) _ _ s3
      refine wpAny_bind (wpAny_updateSeq hD3 rfl (wpAny_pure ⟨.none, rfl, ?_⟩) (by omega))
      have hsb : Heap.SameBut D s3.heap (s3.heap.update D (Obj.mapSeq (·.push y))) := Heap.SameBut.update s3.heap D (Obj.mapSeq (·.push y))
      obtain ⟨S4, T4⟩ := S3.side (t := s3.toks) (h' := s3.heap.update D (Obj.mapSeq (·.push y))) HD3 hbD (fun b o hb e => (hsb.2 b hb).trans e)
        (fun items' ⟨o', ho', hc', _⟩ => by rw [hD3] at ho'; cases ho'; simp at hc') (fun a b c t u w e => by unfold IsRange at e; rw [hD3] at e; simp at e)
      have F4 : FRel C cenv H3 (s3.heap.update D (Obj.mapSeq (·.push y))) mf := ((F2.stp0 T3).stp T4 (fun a ha => (hw a ha).2)).weaken fun z r e => by
        unfold Loc.set
        by_cases hz : z = x
        · subst hz; rw [mx] at e; cases e
        · rw [if_neg hz]; exact e
      refine ⟨src.items.length - (i + 1), by omega, i + 1, H3, vs ++ [q], rfl, S4, F4, ?_, I3.mono T4.imm (by
        obtain ⟨o, ho', _⟩ := I3.obj
        rw [hsb.2 it itD]), HI3, HD3, ⟨items.push y, _, Heap.get?_update_self _ hD3 rfl, ?_⟩, by simp; omega, hil, run3⟩
      · exact (((T.trans (T1.widen fun a e => .inl e)).trans (T2.widen fun a e => .inr (.inr e))).trans (T3.widen fun a e => e.elim)).trans (T4.widen fun a e => .inr (.inl e))
      · rw [Array.toList_push]
        exact (hr3.mono T4.imm).append (VRels.cons (rq.mono T4.imm) VRels.nil)
    · have hd : src.items.drop i = [] := List.drop_eq_nil_of_le (List.getElem?_eq_none_iff.mp hp)
      rw [hd] at run
      obtain ⟨S1, T1⟩ := S.side (t := t) hi hbI (fun b o hb e => hs b o hb e) nt nr
      exact hR _ H vs S1 (F.stp T1 (fun a ha => (hw a ha).1)) (T.trans (T1.widen fun a e => .inl e)) hD ⟨items, nn, hs D _ (Ne.symm itD) ho, hr.mono T1.imm⟩ run.2
  · intro r s₁ h₁
    cases r with
    | none => exact h₁
    | some v => exact wpAny_mono h₁ (fun _ s₂ h₂ => wpAny_mono h₂ (fun y s₃ h₃ => wpAny_mono h₃ (fun _ _ q => q) fun _ _ f => f.elim) fun _ _ f => f.elim) fun _ _ f => f.elim

theorem iter_self {src : Src} {it : Addr} {i : Nat} {s : Shared} {Q : Value → Shared → Prop} {E : Value → Shared → Prop} (I : IterAt s.heap it i src) (h : Q (.ref it) s) : wpAny (model C.prog C.w) A (pyIter (.ref it)) Q E s := by
  cases src with
  | lst a l => exact wpAny_pyIter_listiter I h
  | tup l => obtain ⟨t, items, h1, _⟩ := I; exact wpAny_pyIter_tupleiter h1 h
  | rng a b c => obtain ⟨_, h1, _⟩ := I; exact wpAny_pyIter_rangeiter h1 h

/-- the whole block: the iterator, the list, the names, the turns -/
theorem comp_block {elt iter : PySem.Expr} {x : PySem.Str} {px : Pos} {scope sc : Scope} {cl : List (PySem.Str × Addr)} {pos : Pos} {src : Src} {iv : PV} {v : Value} {env : Env} {m : Loc} {s : Shared} {H : AH} {B : PV → AH → (PV → AH → Prop) → Prop} {Q : List PV → AH → Prop}
    {RR : Value → Addr → Result → Shared → Prop} {E : Value → Shared → Prop} (hl : C.hb.NoLimit) (hE : ∀ v s, NoE v s → E v s)
    (hh : A.handled = none) (S : St C H s) (F : FRel C env H s.heap m) (hsc : ScOk env sc) (ok : CompOk scope sc x)
    (h2 : ∀ x c, cl.lookup x = some c → env.cells.lookup x = some c) (h3 : ∀ y ∈ scope.names, y.2 = .free → ∃ c, cl.lookup y.1 = some c)
    (r : VRel s.heap iv v) (hsrc : src.of iv H) (hlen : src.items.length ≤ 1000)
    (hB : ∀ cenv s p H Q, ScOk cenv scope → FRel C cenv H s.heap ((freeLoc scope m).set x p) → St C H s → B p H Q → wpAny (model C.prog C.w) A (eval elt cenv) (PostE C H s Q) NoE s)
    (run : awComp B src.chk src.items H [] Q)
    (hR : ∀ s' H' vs D Cl mm items n, St C H' s' → Stp NoW H s.heap H' s'.heap → s.heap.get? D = none → s.heap.get? Cl = none → D ≠ Cl → D ≠ sysModules → H' Cl = none → H' D = none → s'.heap.Ns Cl mm →
      s'.heap.get? D = some { cls := .type "list", data := .seq items n } → VRels s'.heap vs items.toList → Q vs H' → RR (.ref D) Cl (.ok .next) s') :
    wpAny (model C.prog C.w) A (pyIter v) (fun it s₂ => wpAny (model C.prog C.w) A (newList []) (fun acc s₃ => wpAny (model C.prog C.w) A (newFunctionEnv scope env.globals cl [] env.qual none .none (some env)) (fun cenv s₄ =>
      codeAny (model C.prog C.w) A (.compStart (.ListComp elt [⟨.Name x px, iter, [], 0⟩] scope pos) 0 it acc { cenv with scope := relabel scope env }) (RR acc cenv.locals) s₄) E s₃) E s₂) E s := by
  refine wpAny_mono (iter_sound S r hsrc fun it h' hnone hge keep I => ?_) (fun _ _ h => h) hE
  refine wpAny_newObj_type (wpAny_newFunctionEnv ok.nocell (by intro y hy; simp at hy) (fun h₁ hns₁ hsb₁ => ?_) ok.kind) (hd := by size_fits)
  dsimp only at hns₁ hsb₁ ⊢
  have hD : h'.get? h'.objs.size = none := Heap.get?_none_of_le (Nat.le_refl _)
  obtain ⟨oI, hoI, _⟩ := I.obj
  have itD : it < h'.objs.size := Heap.lt_size hoI
  generalize hH2 : h'.push { cls := .type "list", dict := none, data := .seq ([] : List Value).toArray } = H2 at hns₁ hsb₁ ⊢
  have hC : H2.objs.size = h'.objs.size + 1 := by rw [← hH2, Heap.size_push]
  have old : ∀ b o, h'.get? b = some o → h₁.get? b = some o := fun b o e => by
    have : b < h'.objs.size := Heap.lt_size e
    exact (hsb₁.2 b (by rw [hC]; exact Nat.ne_of_lt (Nat.lt_succ_of_lt this))).trans (Heap.get?_push_of_some _ (hH2 ▸ Heap.get?_push_of_some _ e))
  have hDC : h'.objs.size ≠ H2.objs.size := by rw [hC]; exact Nat.ne_of_lt (Nat.lt_succ_self _)
  have hacc : h₁.get? h'.objs.size = some { cls := .type "list", dict := none, data := .seq ([] : List Value).toArray } := hsb₁.extBut _ _ hDC (Heap.get?_push_of_some _ (hH2 ▸ Heap.get?_push_size _ rfl))
  have keepA : ∀ b o, s.heap.get? b = some o → h₁.get? b = some o := fun b o e => old b o (keep b o e)
  have sle : s.heap.objs.size ≤ h'.objs.size := Nat.le_trans hge (Nat.le_of_lt itD)
  have frH : ∀ a, s.heap.objs.size ≤ a → s.heap.get? a = none ∧ H a = none ∧ C.hb.get? a = none := fun a ha => by
    have h0 : s.heap.get? a = none := Heap.get?_none_of_le ha
    refine ⟨h0, ?_, S.hb_none h0⟩
    cases e : H a with
    | none => rfl
    | some o => exact absurd (Nat.lt_of_lt_of_le (S.lt e) ha) (Nat.lt_irrefl _)
  have fD := frH h'.objs.size sle
  have fC := frH H2.objs.size (by rw [hC]; exact Nat.le_succ_of_le sle)
  have fI := frH it hge
  have loop : ∀ s₄ : Shared, s₄ = { s with heap := h₁, toks := s.toks + ([] : List (PySem.Str × Value)).length } →
      codeAny (model C.prog C.w) A (.compLoop (.ListComp elt [⟨.Name x px, iter, [], 0⟩] scope pos) 0 (.ref it) (.ref h'.objs.size) (compEnvC scope cl H2.objs.size env)) (RR (.ref h'.objs.size) H2.objs.size) s₄ := by
    rintro s₄ rfl
    have F1 : FRel C (compEnvC scope cl H2.objs.size env) H h₁ (freeLoc scope m) := comp_frame F hsc ok h2 h3 (Stp.of_keeps keepA) fC.2.1 fC.2.2 hns₁ fC.1
    refine comp_loop (cenv := compEnvC scope cl H2.objs.size env) (src := src) (mf := freeLoc scope m) (B := B) (Q := Q) (H₀ := H) (h₀ := s.heap) (i := 0) (H := H) (vs := []) hh (lookup_relabel_local ok.tgt) (by unfold freeLoc; rw [ok.tgt]; rfl) (fun a ha => ?_) (Nat.ne_of_lt itD) fI.2.2 fD.2.2 hlen
      (fun s p H Q F S b => hB _ s p H Q (comp_sc ok) F S b) (fun s' H' vs S' F' T' hD' ⟨items, n, ho, hr⟩ q => ?_) _
      ⟨S.keeps keepA, F1, Stp.of_keeps keepA, I.mono (Imm.of_keeps old) (by rw [hoI, old _ _ hoI]), fI.2.1, fD.2.1, ⟨_, _, hacc, VRels.nil⟩, Nat.le_refl _, Nat.zero_le _, run⟩
    · rcases ha with rfl | ⟨y, hy⟩
      · refine ⟨?_, Ne.symm hDC⟩
        show H2.objs.size ≠ it
        rw [hC]; exact Nat.ne_of_gt (Nat.lt_succ_of_lt itD)
      · obtain ⟨_, _, _, w, o, ho, _⟩ := F.cell y a (h2 y a hy)
        exact ⟨fun e => by rw [e, fI.1] at ho; exact (nomatch ho), fun e => by rw [e, fD.1] at ho; exact (nomatch ho)⟩
    · obtain ⟨mm, hmm, _⟩ := F'.ns
      refine hR s' H' vs _ _ mm items n S' (T'.narrow fun a ha w => ?_) fD.1 fC.1 hDC (S.not_mods hl sle) F'.lH hD' hmm ho hr q
      rcases w with rfl | rfl | rfl
      · rw [fI.1] at ha; cases ha
      · rw [fD.1] at ha; cases ha
      · have := fC.1
        rw [show s.heap.get? (compEnvC scope cl H2.objs.size env).locals = none from this] at ha; cases ha
  exact codeAny_compStart_list (loop _ rfl) (iter_self (src := src) (i := 0) (I.mono (Imm.of_keeps old) (by rw [hoI, old _ _ hoI])) (loop _ rfl))
end
end
section
open PySem PySem.W PySem.Calls PyProof.Rows
open scoped Classical

structure At (C : Ctx) (n : Nat) (A : Around) (env : Env) (sc : Scope) (m : Loc) (H : AH) (s : Shared) : Prop where
  R : Room A n
  S : St C H s
  F : FRel C env H s.heap m
  K : ScOk env sc

noncomputable def PostL (C : Ctx) (H : AH) (s : Shared) (Q : List PV → AH → Prop) : List Value → Shared → Prop :=
  fun vs s' => ∃ ps H', VRels s'.heap ps vs ∧ St C H' s' ∧ Stp NoW H s.heap H' s'.heap ∧ Q ps H'
noncomputable def PostT (C : Ctx) (H : AH) (s : Shared) (Q : Bool → AH → Prop) : Bool → Shared → Prop :=
  fun b s' => ∃ H', St C H' s' ∧ Stp NoW H s.heap H' s'.heap ∧ Q b H'

noncomputable def SE (C : Ctx) (n : Nat) (e : PySem.Expr) : Prop := ∀ (A : Around) (env : Env) (sc : Scope) (m : Loc) (H : AH) (s : Shared) (Q : PV → AH → Prop), At C n A env sc m H s → awE C n e sc m H Q →
  wpAny (model C.prog C.w) A (eval e env) (PostE C H s Q) NoE s
noncomputable def STr (C : Ctx) (n : Nat) (e : PySem.Expr) : Prop := ∀ (A : Around) (env : Env) (sc : Scope) (m : Loc) (H : AH) (s : Shared) (Q : Bool → AH → Prop), At C n A env sc m H s → awT C n e sc m H Q →
  wpAny (model C.prog C.w) A (isTrue e env (eval e env)) (PostT C H s Q) NoE s

section
variable {C : Ctx} {n : Nat} {A : Around} {env : Env} {sc : Scope} {m : Loc} {H : AH} {s : Shared} {mg mb : PySem.Str → Option Value}

theorem At.next {H' : AH} {s' : Shared} (X : At C n A env sc m H s) (S' : St C H' s') (T : Stp NoW H s.heap H' s'.heap) : At C n A env sc m H' s' := ⟨X.R, S', X.F.stp0 T, X.K⟩

theorem SE.seq {e : PySem.Expr} (h : SE C n e) {K : PV → AH → Prop} {k : Value → Shared → Prop} (X : At C n A env sc m H s) (ha : awE C n e sc m H K)
    (hk : ∀ v s1 p H1, VRel s1.heap p v → At C n A env sc m H1 s1 → Stp NoW H s.heap H1 s1.heap → K p H1 → k v s1) : wpAny (model C.prog C.w) A (eval e env) k NoE s :=
  wpAny_mono (h A env sc m H s K X ha) (fun v s1 ⟨p, H1, r, S1, T1, q⟩ => hk v s1 p H1 r (X.next S1 T1) T1 q) fun _ _ f => f
theorem STr.seq {e : PySem.Expr} (h : STr C n e) {K : Bool → AH → Prop} {k : Bool → Shared → Prop} (X : At C n A env sc m H s) (ha : awT C n e sc m H K)
    (hk : ∀ b s1 H1, At C n A env sc m H1 s1 → Stp NoW H s.heap H1 s1.heap → K b H1 → k b s1) : wpAny (model C.prog C.w) A (isTrue e env (eval e env)) k NoE s :=
  wpAny_mono (h A env sc m H s K X ha) (fun b s1 ⟨H1, S1, T1, q⟩ => hk b s1 H1 (X.next S1 T1) T1 q) fun _ _ f => f

theorem wpFrom {H1 : AH} {s1 : Shared} {Q : PV → AH → Prop} {t : Sem Value} (T : Stp NoW H s.heap H1 s1.heap) (h : wpAny (model C.prog C.w) A t (PostE C H1 s1 Q) NoE s1) : wpAny (model C.prog C.w) A t (PostE C H s Q) NoE s1 :=
  wpAny_mono h (fun _ _ ⟨p, H', r, S', T', q⟩ => ⟨p, H', r, S', T.trans T', q⟩) fun _ _ f => f
theorem wpFromT {H1 : AH} {s1 : Shared} {Q : Bool → AH → Prop} {t : Sem Bool} (T : Stp NoW H s.heap H1 s1.heap) (h : wpAny (model C.prog C.w) A t (PostT C H1 s1 Q) NoE s1) : wpAny (model C.prog C.w) A t (PostT C H s Q) NoE s1 :=
  wpAny_mono h (fun _ _ ⟨H', S', T', q⟩ => ⟨H', S', T.trans T', q⟩) fun _ _ f => f

theorem truth_sound {v : PV} {u : Value} {k : Bool → Prop} {Q : Bool → Shared → Prop} (r : VRel s.heap v u) (h : awTruth v k) (q : ∀ b, v = .bool b → k b → Q b s) : wpAny (model C.prog C.w) A (truthy u) Q NoE s := by
  unfold awTruth at h
  split at h
  · simp only [VRel] at r; subst r
    exact wpAny_truthy_bool (q _ rfl h)
  · cases h

theorem const_sound {c : Const} {Q : PV → AH → Prop} (S : St C H s) (h : awConst c H Q) : wpAny (model C.prog C.w) A (constValue env c) (PostE C H s Q) NoE s := by
  cases h with
  | int h => exact wpAny_mkInt (postE_same S vI h)
  | str h => exact wpAny_mkText (postE_same S vS h)
  | bool h => exact wpAny_pure (postE_here S vB h)
  | none h => exact wpAny_pure (postE_here S vN h)

theorem se_Constant {c : Const} {k : PySem.Expr → PySem.Expr} {kk pos} : SE C n (.Constant c kk pos) := fun A env sc m H s Q X h => by
  rw [arm_eval_Constant]
  exact const_sound X.S h

theorem se_Name (G : Good C mg mb) {x : PySem.Str} {pos} : SE C n (.Name x pos) := fun A env sc m H s Q X h => by
  exact wpAny_Name (load_sound G X.S X.F X.K h.2) h.1

theorem se_BinOp (G : Good C mg mb) {l r : PySem.Expr} {op pos} (hl : SE C n l) (hr : SE C n r) : SE C n (.BinOp l op r pos) := fun A env sc m H s Q X h => by
  exact wpAny_BinOp (hl.seq X h fun va s1 a H1 ra X1 T1 h1 => hr.seq X1 h1 fun vb s2 b H2 rb X2 T2 h2 => wpFrom (T1.trans T2) (bin_sound G.nolimit X2.S (ra.mono T2.imm) rb h2))

theorem un_sound {op : UnaryOp} {a : PV} {v : Value} {Q : PV → AH → Prop} (S : St C H s) (r : VRel s.heap a v) (h : awUn op a H Q) : wpAny (model C.prog C.w) A (unaryOp op v) (PostE C H s Q) NoE s := by
  cases h with
  | neg q => obtain ⟨t, rfl⟩ := r; exact PyProof.Rows.neg_int (postE_same S vI q)

theorem se_UnaryOp {x : PySem.Expr} {op pos} (hx : SE C n x) : SE C n (.UnaryOp op x pos) := fun A env sc m H s Q X h => by
  exact wpAny_UnaryOp (hx.seq X h fun va s1 a H1 ra X1 T1 h1 => wpFrom T1 (un_sound X1.S ra h1))

theorem se_IfExp {t b o : PySem.Expr} {pos} (ht : STr C n t) (hb : SE C n b) (ho : SE C n o) : SE C n (.IfExp t b o pos) := fun A env sc m H s Q X h => by
  refine wpAny_IfExp (ht.seq X h fun c s1 H1 X1 T1 h1 => ?_)
  cases c with
  | true => rw [if_pos rfl] at h1 ⊢; exact wpFrom T1 (hb _ _ _ _ _ _ _ X1 h1)
  | false => rw [if_neg (by decide)] at h1 ⊢; exact wpFrom T1 (ho _ _ _ _ _ _ _ X1 h1)

theorem se_Compare (G : Good C mg mb) {l r : PySem.Expr} {op pos} (hl : SE C n l) (hr : SE C n r) : SE C n (.Compare l [op] [r] pos) := fun A env sc m H s Q X h => by
  exact wpAny_Compare1 (hl.seq X h.2 fun va s1 a H1 ra X1 T1 h1 => hr.seq X1 h1 fun vb s2 b H2 rb X2 T2 h2 => wpFrom (T1.trans T2) (cmp_sound G X2.R X2.S (ra.mono T2.imm) rb h2)) h.1

theorem boolOp_sound {op : BoolOp} {pos : Pos} : ∀ {es : List PySem.Expr} (_ : ∀ e ∈ es, SE C n e) {H : AH} {s : Shared} {Q : PV → AH → Prop}, At C n A env sc m H s → awB C n op es sc m H Q →
    wpAny (model C.prog C.w) A (boolOp pos op (evalEach es env)) (PostE C H s Q) NoE s
  | [], _, H, s, Q, X, h => (show False from h).elim
  | [e], he, H, s, Q, X, h => by
    exact he e (by simp) _ _ _ _ _ _ _ X h
  | e :: e' :: r, he, H, s, Q, X, h => by
    show wpAny _ A (do
      let v ← eval e env
      standAt pos
      let t ← holding [v] (truthy v)
      match op, t with
      | .And, false | .Or, true => pure v
      | _, _ => boolOp pos op (evalEach (e' :: r) env)) _ _ s
    refine wpAny_bind ((he e (by simp)).seq X h fun v s1 p H1 r1 X1 T1 h1 => ?_)
    dsimp only at h1
    refine wpAny_bind (wpAny_standAt (wpAny_bind (wpAny_holding (truth_sound r1 h1 fun b hb h2 => ?_))))
    have ih := fun (h3 : awB C n op (e' :: r) sc m H1 Q) => wpFrom T1 (boolOp_sound (pos := pos) (op := op) (es := e' :: r) (fun x hx => he x (List.mem_cons_of_mem _ hx)) X1 h3)
    cases op <;> cases b <;> dsimp only at h2 ⊢ <;> first
      | exact ih h2
      | exact wpAny_pure ⟨p, H1, r1, X1.S, T1, h2⟩

theorem se_BoolOp {op : BoolOp} {es : List PySem.Expr} {pos} (he : ∀ e ∈ es, SE C n e) : SE C n (.BoolOp op es pos) := fun A env sc m H s Q X h => by
  rw [arm_eval_BoolOp]
  exact boolOp_sound he X h

theorem args_sound {pos : Pos} : ∀ {es : List PySem.Expr} (_ : ∀ e ∈ es, SE C n e) {H : AH} {s : Shared} {Q : List PV → AH → Prop}, At C n A env sc m H s → awEs C n es sc m H Q →
    wpAny (model C.prog C.w) A (spliced (backTo pos (starEach es env))) (PostL C H s Q) NoE s
  | [], _, H, s, Q, X, h => by
    exact args_nil ⟨[], H, VRels.nil, X.S, Stp.refl _ _ _, h⟩
  | e :: r, he, H, s, Q, X, h => by
    refine args_cons ((he e (by simp)).seq X h.2 fun v s1 p H1 r1 X1 T1 h1 => wpAny_mono (args_sound (fun x hx => he x (by simp [hx])) X1 h1) (fun vs s2 ⟨ps, H2, r2, S2, T2, q⟩ => ?_) fun _ _ f => f) ?_
    · exact ⟨p :: ps, H2, VRels.cons (r1.mono T2.imm) r2, S2, T1.trans T2, q⟩
    · have hs : isStar e = false := h.1
      cases e <;> first | rfl | (cases (show true = false from hs))

theorem se_Tuple {es : List PySem.Expr} {k pos} (he : ∀ e ∈ es, SE C n e) : SE C n (.Tuple es k pos) := fun A env sc m H s Q X h => by
  refine wpAny_Tuple_spliced (wpAny_mono (args_sound he X h) (fun vs s1 ⟨ps, H1, r, S1, T1, hl, q⟩ => ?_) fun _ _ f => f)
  have e := r.length
  have sl := line_is
  refine ⟨by omega, ?_⟩
  obtain ⟨p, H', a, b, c, d⟩ := postE_keeps (t := s1.toks) (Q := Q) (v := .ref s1.heap.objs.size) (p := .tup ps) S1 (push_keeps _) (by
    simp only [VRel]
    exact ⟨_, vs.toArray, rfl, IsTuple.pushed _ _, by simpa using r.mono (Imm.of_keeps (push_keeps _))⟩) q
  exact ⟨p, H', a, b, T1.trans c, d⟩

theorem se_List (G : Good C mg mb) {es : List PySem.Expr} {pos} (he : ∀ e ∈ es, SE C n e) : SE C n (.List es pos) := fun A env sc m H s Q X h => by
  refine wpAny_List_spliced (wpAny_mono (args_sound he X h) (fun vs s1 ⟨ps, H1, r, S1, T1, hl, q⟩ => ?_) fun _ _ f => f)
  have e := r.length
  have sl := line_is
  refine ⟨by omega, ?_⟩
  obtain ⟨p, H', a, b, c, d⟩ := postE_list (t := s1.toks) (Q := Q) (items := vs.toArray) G.nolimit S1 (push_keeps _) (Nat.le_refl _) (Heap.get?_push_size _ rfl) (by simpa using r.mono (Imm.of_keeps (push_keeps _))) q
  exact ⟨p, H', a, b, T1.trans c, d⟩

theorem base_ok {o : PySem.Expr} {x : PySem.Str} {w : Sem Value} (h : baseOk o = true) : attributeBase o x env w = w := by
  cases o with
  | Call f as ks p =>
    cases f with
    | Name i q =>
      cases as with
      | nil => cases ks with
        | nil => exact (Bool.noConfusion (show false = true from h))
        | cons => rfl
      | cons => rfl
    | _ => rfl
  | _ => rfl

theorem se_Attribute (G : Good C mg mb) {o : PySem.Expr} {x pos} (ho : SE C n o) : SE C n (.Attribute o x pos) := fun A env sc m H s Q X h => by
  rw [arm_eval_Attribute, base_ok h.1]
  refine wpAny_bind (ho.seq X h.2 fun va s1 a H1 ra X1 T1 h1 => wpAny_bind (wpAny_standAt (wpAny_bind (wpAny_holding (wpAny_mono (wpFrom T1 (attr_sound G X1.S ra h1)) (fun r s2 h2 => ?_) fun _ _ f => f)))))
  exact wpAny_bind (wpAny_letTemporaryGo (wpAny_pure h2))

theorem awE_Subscript {v i : PySem.Expr} {pos} {Q : PV → AH → Prop} (hi : isSlice i = false) : awE C n (.Subscript v i pos) sc m H Q = awE C n v sc m H fun o H1 => awE C n i sc m H1 fun k H2 => awItem C o k H2 Q := by
  cases i <;> first | rfl | (cases hi)

theorem se_Subscript (G : Good C mg mb) {v i : PySem.Expr} {pos} (hi : isSlice i = false) (hv : SE C n v) (hii : SE C n i) : SE C n (.Subscript v i pos) := fun A env sc m H s Q X h => by
  rw [awE_Subscript hi] at h
  exact Subscript_ (hv.seq X h fun va s1 a H1 ra X1 T1 h1 => hii.seq X1 h1 fun vb s2 b H2 rb X2 T2 h2 => wpFrom (T1.trans T2) (item_sound G X2.R X2.S (ra.mono T2.imm) rb h2))

theorem opt_sound {e : Option PySem.Expr} {K : PV → AH → Prop} {k : Value → Shared → Prop} (he : ∀ x, e = some x → SE C n x) (X : At C n A env sc m H s) (ha : awO C n e sc m H K)
    (hk : ∀ v s1 p H1, VRel s1.heap p v → At C n A env sc m H1 s1 → Stp NoW H s.heap H1 s1.heap → K p H1 → k v s1) : wpAny (model C.prog C.w) A (valueOrNone (evalOpt e env)) k NoE s := by
  cases e with
  | none =>
    exact wpAny_pure (hk _ _ .none H (by simp only [VRel]) X (Stp.refl _ _ _) ha)
  | some e =>
    exact (he e rfl).seq X ha hk

theorem se_Slice (G : Good C mg mb) {v : PySem.Expr} {lo hi st : Option PySem.Expr} {p pos} (hv : SE C n v) (h1 : ∀ x, lo = some x → SE C n x) (h2 : ∀ x, hi = some x → SE C n x) (h3 : ∀ x, st = some x → SE C n x) :
    SE C n (.Subscript v (.Slice lo hi st p) pos) := fun A env sc m H s Q X h => by
  refine Subscript_ (hv.seq X h fun vo s1 o H1 ro X1 T1 h => ?_)
  rw [arm_eval_Slice]
  refine wpAny_bind (opt_sound h1 X1 h fun vl s2 l H2 rl X2 T2 h => ?_)
  refine wpAny_bind (wpAny_holding (opt_sound h2 X2 h fun vu s3 u H3 ru X3 T3 h => ?_))
  refine wpAny_bind (wpAny_holding (opt_sound h3 X3 h fun vt s4 t H4 rt X4 T4 h => ?_))
  have big := slice_sound (A := A) (value := v) (slice := .Slice lo hi st p) G X4.S (((ro.mono T2.imm).mono T3.imm).mono T4.imm) ((rl.mono T3.imm).mono T4.imm) (ru.mono T4.imm) rt h
  exact wpAny_mono big (fun i s5 h5 => wpAny_mono h5 (fun _ _ ⟨p, H', r, S', T', q⟩ => ⟨p, H', r, S', (((T1.trans T2).trans T3).trans T4).trans T', q⟩) fun _ _ f => f) fun _ _ f => f
end
end
section
open PySem PySem.W PySem.Calls PyProof.Rows
open scoped Classical

theorem valueAt_map {K : Type} [DecidableEq K] (k : K) (v : Value) (x : K) : ∀ (kvs : List (K × Value)), valueAt (kvs.map fun kv => if kv.1 = k then (kv.1, v) else kv) x = if x = k then (valueAt kvs x).map (fun _ => v) else valueAt kvs x
  | [] => by simp [valueAt]
  | a :: r => by
    have ih := valueAt_map k v x r
    unfold valueAt at ih ⊢
    rw [List.map_cons, List.find?_cons, List.find?_cons]
    by_cases h1 : a.1 = k
    · rw [if_pos h1]
      by_cases h2 : a.1 = x
      · simp only [h2, decide_true, if_true, Option.map_some]
        rw [if_pos (h2 ▸ h1)]
      · simp only [h2, decide_false]
        exact ih
    · rw [if_neg h1]
      by_cases h2 : a.1 = x
      · simp only [h2, decide_true, Option.map_some]
        rw [if_neg (h2 ▸ h1)]
      · simp only [h2, decide_false]
        exact ih

theorem valueAt_stored {K : Type} [DecidableEq K] (kvs : List (K × Value)) (k : K) (v : Value) (x : K) : valueAt (stored kvs k v) x = if x = k then some v else valueAt kvs x := by
  unfold stored
  by_cases h : kvs.any (fun kv => kv.1 = k) = true
  · rw [if_pos h, valueAt_map]
    by_cases hx : x = k
    · subst hx
      rw [if_pos rfl, if_pos rfl]
      obtain ⟨a, ha, hk⟩ := List.any_eq_true.mp h
      have : (kvs.find? fun kv => kv.1 = x).isSome = true := List.find?_isSome.mpr ⟨a, ha, hk⟩
      obtain ⟨b, hb⟩ := Option.isSome_iff_exists.mp this
      unfold valueAt
      rw [hb]; rfl
    · rw [if_neg hx, if_neg hx]
  · rw [if_neg h]
    have hn : ∀ a ∈ kvs, ¬ a.1 = k := fun a ha e => h (List.any_eq_true.mpr ⟨a, ha, by simpa using e⟩)
    unfold valueAt
    rw [List.find?_append]
    by_cases hx : x = k
    · subst hx
      have : (kvs.find? fun kv => kv.1 = x) = none := List.find?_eq_none.mpr fun a ha => by simpa using hn a ha
      rw [this]; simp
    · rw [if_neg hx]
      cases e : kvs.find? fun kv => kv.1 = x with
      | some b => rfl
      | none => simp [Ne.symm hx]

noncomputable def KVs : List (Int × Value) → List (Int × PySem.Str) → Prop
  | [], [] => True
  | (k, v) :: r, (k', x) :: r' => k = k' ∧ (∃ t, v = .str x t) ∧ KVs r r'
  | _, _ => False

theorem merged_sound {h : Heap} : ∀ {kvs : List (Int × Value)} {ps : List (Int × PySem.Str)} {kvs0 : List (Int × Value)} {m0 : Int → Option PV}, KVs kvs ps → (∀ k, OV h (m0 k) (valueAt kvs0 k)) →
    ∀ k, OV h (ps.foldl (fun m p => fun k => if k = p.1 then some (.str p.2) else m k) m0 k) (valueAt (merged kvs0 kvs) k)
  | [], [], _, _, _, h0, k => h0 k
  | (k1, v) :: r, (k2, x) :: r', kvs0, m0, hk, h0, k => by
    obtain ⟨rfl, ⟨t, rfl⟩, hr⟩ := hk
    refine merged_sound (kvs0 := stored kvs0 k1 (.str x t)) hr (fun j => ?_) k
    rw [valueAt_stored]
    dsimp only
    by_cases hj : j = k1
    · subst hj
      rw [if_pos rfl, if_pos rfl]
      exact ⟨_, rfl, by simp only [VRel]; exact ⟨_, rfl⟩⟩
    · rw [if_neg hj, if_neg hj]; exact h0 j
theorem KVs.length : ∀ {kvs : List (Int × Value)} {ps : List (Int × PySem.Str)}, KVs kvs ps → kvs.length = ps.length
  | [], [], _ => rfl
  | _ :: r, _ :: r', h => by simp [KVs.length h.2.2]

noncomputable def dpairs (pos : Pos) (ps : List (Int × PySem.Str)) : List (Sem Value × Sem Value) := ps.map fun p => (mkInt p.1, do let x ← mkText p.2; standAt pos; pure x)

theorem dshape {env : Env} {pos : Pos} {ks : List (Option PySem.Expr)} {vs : List PySem.Expr} {ps : List (Int × PySem.Str)} (h : CPairs ks vs ps) :
    (evalEachOpt ks env).zip ((evalEach vs env).map fun v => do let x ← v; standAt pos; pure x) = (dpairs pos ps).map fun p => (some p.1, p.2) := by
  induction h with
  | nil => rfl
  | @cons k _ _ _ _ x ks vs ps h ih =>
    show (some (mkInt k), _) :: _ = _
    rw [dpairs, List.map_cons, List.map_cons]
    exact congrArg _ ih

section
variable {C : Ctx} {n : Nat} {A : Around} {env : Env} {sc : Scope} {m : Loc} {H : AH} {s : Shared} {mg mb : PySem.Str → Option Value}

theorem dpairs_sound {pos : Pos} : ∀ (ps : List (Int × PySem.Str)) (s : Shared) (Q : List (Value × Value) → Shared → Prop),
    (∀ vs kvs t, Carries (intKind C.prog C.w) vs kvs → KVs kvs ps → Q vs { s with toks := t }) → wpAny (model C.prog C.w) A (evalPairs (dpairs pos ps)) Q NoE s
  | [], s, Q, q => evalPairs_nil (q [] [] s.toks trivial trivial)
  | (k, x) :: r, s, Q, q => by
    refine evalPairs_cons (wpAny_mkInt (wpAny_bind (wpAny_mkText (wpAny_bind (wpAny_standAt (wpAny_pure ?_))))))
    exact dpairs_sound r _ _ fun vs kvs t hc hk => q _ ((k, .str x _) :: kvs) t ⟨by simp [intKind, Value.isInt], rfl, hc⟩ ⟨rfl, ⟨_, rfl⟩, hk⟩

theorem se_Dict (G : Good C mg mb) {ks : List (Option PySem.Expr)} {vs : List PySem.Expr} {pos} : SE C n (.Dict ks vs pos) := fun A env sc m H s Q X h => by
  have fr : H s.heap.objs.size = none := X.S.fresh
  have nm := X.S.not_mods G.nolimit (Nat.le_refl _)
  have hn : s.heap.get? s.heap.objs.size = none := Heap.get?_none_of_le (Nat.le_refl _)
  have h : awDict ks vs H Q := h
  cases h with
  | nil q =>
    rw [eval_Dict_empty]
    refine wpAny_bind (wpAny_standAt (wpAny_newObj_type ?_))
    obtain ⟨S', T'⟩ := X.S.alloc (t := s.toks) (o := .tdict (fun _ => none) 0) (push_keeps { cls := .type "dict", dict := none, data := .dict #[] }) hn nm ⟨[], Heap.DictOfH.new _, Nat.le_refl _, fun k => rfl⟩
    exact ⟨_, _, vV, S', T', q _ fr⟩
  | @pairs _ _ ps _ _ hp h0 hle q =>
    refine wpAny_Dict_pairs (knd := intKind C.prog C.w) (dshape hp) (by unfold dpairs; intro e; rw [List.map_eq_nil_iff] at e; rw [e] at h0; exact absurd h0 (by decide)) (by unfold dpairs; rw [List.length_map]; exact hle) ?_
    refine dpairs_sound ps _ _ fun vs kvs t hc hk => ⟨kvs, hc, Heap.DictOf.new _, fun h' hd hs => ?_⟩
    have keep : ∀ b o, s.heap.get? b = some o → h'.get? b = some o := fun b o e => hs.extBut b o (Nat.ne_of_lt (Heap.lt_size e)) (push_keeps _ _ _ e)
    obtain ⟨S', T'⟩ := X.S.alloc (t := t + vs.length) (o := .idict (pairsMap ps) ps.length) keep hn nm ⟨_, hd, by
      have := merged_length_le ([] : List (Int × Value)) kvs
      rw [hk.length] at this; simpa using this, merged_sound hk (fun k => rfl)⟩
    exact ⟨_, _, vV, S', T', q _ fr⟩

theorem noStar_plain {pos : Pos} : ∀ {as : List PySem.Expr}, noStar as = true → (backTo pos (starEach as env)).any (·.1) = false ∧ (backTo pos (starEach as env)).all (fun x => !x.1) = true ∧ (∀ e r, as = e :: r → starEach (e :: r) env = (false, eval e env) :: starEach r env)
  | [], _ => ⟨rfl, rfl, fun _ _ e => nomatch e⟩
  | e :: r, h => by
    unfold noStar at h
    rw [List.all_cons, Bool.and_eq_true] at h
    obtain ⟨h1, h2⟩ := h
    obtain ⟨i1, i2, _⟩ := noStar_plain (pos := pos) (as := r) h2
    have he : starEach (e :: r) env = (false, eval e env) :: starEach r env := by cases e <;> first | rfl | (cases h1)
    have hb : backTo pos (starEach (e :: r) env) = (false, eval e env) :: backTo pos (starEach r env) := by rw [he]; rfl
    refine ⟨by rw [hb]; simpa using i1, by rw [hb]; simpa using i2, fun e' r' q => by cases q; exact he⟩

theorem evalArgs_sound {f : Value} {pos : Pos} {as : List PySem.Expr} {Q : Args → Shared → Prop} {E : Value → Shared → Prop} {M : Model} (hs : noStar as = true) (h : wpAny M A (spliced (backTo pos (starEach as env))) (fun vs s' => Q ⟨vs, []⟩ s') E s) :
    wpAny M A (evalArgs f true (backTo pos (starEach as env)) []) Q E s := by
  cases as with
  | nil =>
    unfold evalArgs
    show wpAny M A (spliced [] >>= _) Q E s
    refine wpAny_bind (wpAny_mono h (fun vs s' h' => ?_) fun _ _ x => x)
    refine wpAny_bind (wpAny_pure ?_)
    refine wpAny_holding ?_
    exact wpAny_bind (wpAny_pure (wpAny_bind (wpAny_pure (wpAny_pure h'))))
  | cons e r =>
    have he := (noStar_plain (env := env) (pos := pos) hs).2.2 e r rfl
    rw [he] at h ⊢
    exact evalArgs_plain h

theorem callWith_sound (G : Good C mg mb) {as : List PySem.Expr} {pos : Pos} {fv : PV} {f : Value} {first : List Value} {Kp : List PV → AH → Prop} {P : Value → Shared → Prop} (hs : noStar as = true) (he : ∀ e ∈ as, SE C n e) (X : At C n A env sc m H s)
    (rf : VRel s.heap fv f) (hc : awCallee C fv) (ha : awEs C n as sc m H Kp)
    (k : ∀ vs s1 ps H1, VRels s1.heap ps vs → At C n A env sc m H1 s1 → Stp NoW H s.heap H1 s1.heap → Kp ps H1 → wpAny (model C.prog C.w) A (call f (first ++ vs)) P NoE s1) :
    wpAny (model C.prog C.w) A (callWith pos f first (backTo pos (starEach as env)) []) P NoE s := by
  have sp := args_sound (pos := pos) he X ha
  have hp := (noStar_plain (env := env) (pos := pos) hs).1
  unfold awCallee at hc
  split at hc
  · simp only [VRel] at rf; subst rf
    exact callWith_builtin hp (evalArgs_sound hs (wpAny_mono sp (fun vs s1 ⟨ps, H1, r, S1, T1, q⟩ => k vs s1 ps H1 r (X.next S1 T1) T1 q) fun _ _ f => f))
  · simp only [VRel] at rf; subst rf
    exact PyProof.Rows.callWith_type hp (evalArgs_sound hs (wpAny_mono sp (fun vs s1 ⟨ps, H1, r, S1, T1, q⟩ => k vs s1 ps H1 r (X.next S1 T1) T1 q) fun _ _ f => f))
  · rename_i g
    simp only [VRel] at rf; subst rf
    refine callWith_of (P := fun h => ∀ b o, C.hb.get? b = some o → h.get? b = some o) (by rw [hp]; rfl) (fun h keep => ?_) (evalArgs_sound hs (wpAny_mono sp (fun vs s1 ⟨ps, H1, r, S1, T1, q⟩ => ⟨S1.keep, k vs s1 ps H1 r (X.next S1 T1) T1 q⟩) fun _ _ f => f))
    rcases hc with hc | rfl
    · obtain ⟨fd, hfd⟩ := Option.isSome_iff_exists.mp hc
      exact ⟨.frame, .inl rfl, (Looks.ld (part := none) (keep _ _ (G.fn g fd hfd).1)).andThen .now⟩
    · exact keeps_K G.kcls.2.2.2.1 h (G.X.keeps keep)
  · cases hc

theorem awE_Call {f : PySem.Expr} {as : List PySem.Expr} {pos} {Q : PV → AH → Prop} (hf : isAttr f = false) : awE C n (.Call f as [] pos) sc m H Q = (isAttr f = false ∧ noStar as = true ∧ awE C n f sc m H fun fv H1 => awCallee C fv ∧ awEs C n as sc m H1 fun vs H2 => awCall C n fv vs H2 Q) := by
  cases f <;> first | rfl | (cases hf)
theorem eval_Call_plain {f : PySem.Expr} {as : List PySem.Expr} {pos} (hf : isAttr f = false) : eval (.Call f as [] pos) env = (do callWith pos (← eval f env) [] (backTo pos (starEach as env)) (backToKw pos (keywordEach [] env))) := by
  cases f <;> first | rfl | (cases hf)

theorem se_Call (G : Good C mg mb) {f : PySem.Expr} {as : List PySem.Expr} {pos} (hf : isAttr f = false) (hsf : SE C n f) (he : ∀ e ∈ as, SE C n e) : SE C n (.Call f as [] pos) := fun A env sc m H s Q X h => by
  rw [awE_Call hf] at h
  refine Call_ (hsf.seq X h.2.2 fun vf s1 fv H1 rf X1 T1 h1 => callWith_sound G h.2.1 he X1 rf h1.1 h1.2 fun vs s2 ps H2 rs X2 T2 h2 => ?_) (eval_Call_plain hf)
  exact wpFrom (T1.trans T2) (call_sound X2.R X2.S (rf.mono T2.imm) rs h2)

theorem awGetM_strong {x : PySem.Str} {o : PV} {k : Mid → Prop} (h : awGetM C x o H k) : awGetM C x o H fun mid => (∀ f self, mid = .own f self → (C.Fn f).isSome = true) ∧ k mid := by
  cases h with
  | app ea q => exact .app ea ⟨fun _ _ e => Mid.noConfusion e, q⟩
  | getI ea q => exact .getI ea ⟨fun _ _ e => Mid.noConfusion e, q⟩
  | getT ea q => exact .getT ea ⟨fun _ _ e => Mid.noConfusion e, q⟩
  | own ea ed hx hf hF q => exact .own ea ed hx hf hF ⟨fun f' self e => by cases e; exact hF, q⟩
  | join q => exact .join ⟨fun _ _ e => Mid.noConfusion e, q⟩

theorem se_Method (G : Good C mg mb) {o : PySem.Expr} {x : PySem.Str} {apos pos : Pos} {as : List PySem.Expr} (ho : SE C n o) (he : ∀ e ∈ as, SE C n e) : SE C n (.Call (.Attribute o x apos) as [] pos) := fun A env sc m H s Q X h => by
  obtain ⟨hb, hl, hlen, hs, h⟩ := h
  rw [arm_eval_Call, base_ok hb]
  refine wpAny_bind (ho.seq X h fun vo s1 ov H1 ro X1 T1 h1 => wpAny_bind (wpAny_standAt ?_))
  have hform : methodCallForm (as.length + ([] : List Keyword).length) (backTo pos (starEach as env)) (backToKw pos (keywordEach [] env)) = true := by
    show ((backTo pos (starEach as env)).all (fun x => !x.1) && true && decide (as.length + 0 + 0 < 30)) = true
    rw [(noStar_plain (env := env) (pos := pos) hs).2.1]
    simpa using hlen
  have hpos : methodCallPos true o env apos pos = pure pos := by unfold methodCallPos; simp [hl]
  unfold methodCall
  rw [hform]
  refine wpAny_bind (wpAny_holding (wpAny_mono (getM_sound G X1.S ro (awGetM_strong h1)) (fun r s2 hr => ?_) fun _ _ f => f))
  obtain ⟨mid, hm, rfl, hfn, h2⟩ := hr
  obtain ⟨f, first⟩ := r
  refine wpAny_bind (wpAny_of_eq hpos ?_)
  have hcal : awCallee C (.val f) := by
    cases mid with
    | own g self => obtain ⟨e, _⟩ := hm; dsimp only at e; subst e; exact .inl (hfn _ _ rfl)
    | _ => obtain ⟨e, _⟩ := hm; dsimp only at e; subst e; trivial
  refine callWith_sound G hs he X1 (fv := .val f) (by simp only [VRel]) hcal h2 fun vs s3 ps H2 rs X2 T2 h3 => ?_
  exact wpFrom (T1.trans T2) (runM_sound X2.R X2.S (hm.mono T2.imm) rs h3)

theorem isSet_folded {iter : PySem.Expr} (h : isSet iter = false) (x : Value) : foldedSetIterable iter env x = pure x := by
  cases iter <;> first | rfl | (cases h)

theorem se_ListComp (G : Good C mg mb) {elt iter : PySem.Expr} {x : PySem.Str} {px pos : Pos} {scope : Scope} (hi : SE C n iter) (hel : SE C n elt) : SE C n (.ListComp elt [⟨.Name x px, iter, [], 0⟩] scope pos) := fun A env sc m H s Q X h => by
  obtain ⟨hok, hset, h⟩ := h
  have ok := compOk_spec hok
  obtain ⟨cl, hcl, h2, h3⟩ := closureFor_some (env := env) (scope := scope) fun y hy e => X.F.call _ (X.K.cell _ (ok.free y hy e).2)
  rw [eval_ListComp]
  refine wpAny_comprehension_free (use := none) rfl (isSet_folded hset) hcl ok.kind ok.loc (hi.seq X h fun vi s1 iv H1 ri X1 T1 h1 => ?_)
  obtain ⟨src, hsrc, hlen, run⟩ := awIter_src h1
  refine comp_block (B := fun p H2 k => awE C n elt scope (compLoc scope m x p) H2 k) G.nolimit (fun _ _ h => h) X1.R.hd X1.S X1.F X1.K ok h2 h3 ri hsrc hlen (fun cenv s p H Q K F S h => hel _ _ _ _ _ _ _ ⟨X1.R, S, F, K⟩ h) run ?_
  intro s' H' vs D Cl mm items nn S' T' fD fC hDC hDm hHC hHD hmm ho hr q
  refine ⟨mm, hmm, fun h' hs => ?_⟩
  have hbC := X1.S.hb_none fC
  have hbD := X1.S.hb_none fD
  obtain ⟨o, _, _, hoC, hdC, _⟩ := id hmm
  obtain ⟨S2, T2⟩ := S'.side (t := s'.toks) hHC hbC (fun b o hb e => (hs.2 b hb).trans e) (fun items ⟨o', ho', _, _, hd'⟩ => by rw [hoC] at ho'; cases ho'; rw [hdC] at hd'; cases hd') (fun a b c t u w e => by unfold IsRange at e; rw [hoC] at e; cases e; cases hdC)
  have S3 := S2.adopt (a := D) (o := .list vs) hbD hDm ⟨items, nn, (hs.2 D hDC).trans ho, hr.mono T2.imm⟩
  have T3 : Stp NoW H1 s1.heap (H'.set D (.list vs)) h' := (((T'.widen fun _ e => e.elim).trans T2).adopt (.list vs) fD).narrow fun a ha e => by subst e; rw [fC] at ha; cases ha
  exact ⟨.val (.ref D), _, by simp only [VRel], S3, T1.trans T3, q D hHD⟩
end
end
section
open PySem PySem.W PySem.Calls PyProof.Rows
open scoped Classical

section
variable {C : Ctx} {n : Nat} {A : Around} {env : Env} {sc : Scope} {m : Loc} {H : AH} {s : Shared} {mg mb : PySem.Str → Option Value}

theorem plain_truth {e : PySem.Expr} {Q : Bool → AH → Prop} (hse : SE C n e) (X : At C n A env sc m H s) (h : awE C n e sc m H fun v H3 => awTruth v fun b => Q b H3)
    (he : isTrue e env (eval e env) = (do let v ← eval e env; standAt e.pos; holding [v] (truthy v))) : wpAny (model C.prog C.w) A (isTrue e env (eval e env)) (PostT C H s Q) NoE s :=
  isTrue_plain (hse.seq X h fun v s1 p H1 r X1 T1 h1 => truth_sound r h1 fun b _ q => ⟨H1, X1.S, T1, q⟩) he

theorem st_Name (G : Good C mg mb) {x : PySem.Str} {pos} : STr C n (.Name x pos) := fun A env sc m H s Q X h => by
  exact plain_truth (se_Name G) X h rfl

theorem st_Call (G : Good C mg mb) {f : PySem.Expr} {as : List PySem.Expr} {pos} (hsf : SE C n f) (he : ∀ e ∈ as, SE C n e) : STr C n (.Call f as [] pos) := fun A env sc m H s Q X h => by
  refine plain_truth (se_Call G h.1 hsf he) X (by rw [awE_Call h.1]; exact h) rfl

theorem st_Not {x : PySem.Expr} {pos} (hx : STr C n x) : STr C n (.UnaryOp .Not x pos) := fun A env sc m H s Q X h => by
  exact wpAny_isTrue_Not (hx.seq X h fun b s1 H1 X1 T1 q => ⟨H1, X1.S, T1, q⟩)

theorem st_Compare (G : Good C mg mb) {l r : PySem.Expr} {op pos} (hl : SE C n l) (hr : SE C n r) : STr C n (.Compare l [op] [r] pos) := fun A env sc m H s Q X h => by
  refine wpAny_isTrue_Compare1 (hl.seq X h.2 fun va s1 a H1 ra X1 T1 h1 => hr.seq X1 h1 fun vb s2 b H2 rb X2 T2 h2 => ?_) h.1
  exact wpAny_mono (wpFrom (T1.trans T2) (cmp_sound G X2.R X2.S (ra.mono T2.imm) rb h2)) (fun v s3 ⟨p, H3, r3, S3, T3, h3⟩ => truth_sound r3 h3 fun b _ q => ⟨H3, S3, T3, q⟩) fun _ _ f => f

theorem allTrue_sound {op : BoolOp} : ∀ {es : List PySem.Expr} (_ : ∀ e ∈ es, STr C n e) {H : AH} {s : Shared} {Q : Bool → AH → Prop}, At C n A env sc m H s → awTs C n op es sc m H Q →
    wpAny (model C.prog C.w) A (allTrue op es env) (PostT C H s Q) NoE s
  | [], _, H, s, Q, X, h => by
    exact wpAny_pure ⟨H, X.S, Stp.refl _ _ _, h⟩
  | e :: r, he, H, s, Q, X, h => by
    rw [arm_allTrue_cons]
    refine wpAny_bind ((he e (by simp)).seq X h fun b s1 H1 X1 T1 h1 => ?_)
    have ih := fun (h3 : awTs C n op r sc m H1 Q) => wpFromT T1 (allTrue_sound (es := r) (fun x hx => he x (List.mem_cons_of_mem _ hx)) X1 h3)
    cases op <;> cases b <;> dsimp only at h1 ⊢ <;> first
      | exact ih h1
      | exact wpAny_pure ⟨H1, X1.S, T1, h1⟩

theorem st_BoolOp {op : BoolOp} {es : List PySem.Expr} {pos} (he : ∀ e ∈ es, STr C n e) : STr C n (.BoolOp op es pos) := fun A env sc m H s Q X h => by
  rw [arm_isTrue_BoolOp]
  exact allTrue_sound he X h

theorem isSlice_inv {e : PySem.Expr} (h : isSlice e = true) : ∃ lo hi st p, e = .Slice lo hi st p := by
  cases e with
  | Slice lo hi st p => exact ⟨lo, hi, st, p, rfl⟩
  | _ => exact Bool.noConfusion h
theorem isAttr_inv {e : PySem.Expr} (h : isAttr e = true) : ∃ o x p, e = .Attribute o x p := by
  cases e with
  | Attribute o x p => exact ⟨o, x, p, rfl⟩
  | _ => exact Bool.noConfusion h
theorem awE_LC {elt : PySem.Expr} {gens : List Comprehension} {scope : Scope} {pos} {Q : PV → AH → Prop} (h : awE C n (.ListComp elt gens scope pos) sc m H Q) : ∃ x px iter, gens = [⟨.Name x px, iter, [], 0⟩] := by
  rcases gens with _ | ⟨⟨t, iter, ifs, a⟩, gs⟩
  · exact False.elim h
  · cases t with
    | Name x px =>
      rcases ifs with _ | ⟨i, is⟩
      · rcases a with (_ | a) | a
        · rcases gs with _ | ⟨g, gs⟩
          · exact ⟨x, px, iter, rfl⟩
          · exact False.elim h
        · exact False.elim h
        · exact False.elim h
      · rcases a with (_ | a) | a <;> exact False.elim h
    | _ => exact False.elim h

theorem szT {a b k : Nat} (h : a + b < k) : a < k := Nat.lt_of_le_of_lt (Nat.le_add_right a b) h
theorem sz0 {a b k : Nat} (h : a + b < k) : b < k := Nat.lt_of_le_of_lt (Nat.le_add_left b a) h
theorem szL {w y k : Nat} (p : 0 < w) (h : w + y < k + 1) : y < k := by omega
theorem p1 {x : Nat} : 0 < 1 + x := Nat.lt_of_lt_of_le Nat.one_pos (Nat.le_add_right 1 x)
theorem pA {w z : Nat} (p : 0 < w) : 0 < w + z := Nat.lt_of_lt_of_le p (Nat.le_add_right w z)
theorem sz1 {x k : Nat} (h : 1 + x < k + 1) : x < k := szL Nat.one_pos h
theorem szS {α : Type} [SizeOf α] {r : α} {k : Nat} (h : sizeOf [r] < k) : sizeOf r < k := Nat.lt_trans (by simp; omega) h
theorem szO {α : Type} [SizeOf α] {r : α} {k : Nat} (h : sizeOf (some r) < k) : sizeOf r < k := Nat.lt_trans (by simp) h
theorem sx (G : Good C mg mb) : ∀ (k : Nat) (e : PySem.Expr), sizeOf e < k → SE C n e ∧ STr C n e := by
  intro k
  induction k with
  | zero => intro e h; exact absurd h (Nat.not_lt_zero _)
  | succ k ih =>
    intro e hk
    have lst : ∀ {es : List PySem.Expr}, sizeOf es < k → ∀ e ∈ es, SE C n e ∧ STr C n e := fun h e he => ih e (Nat.lt_trans (List.sizeOf_lt_of_mem he) h)
    have lse : ∀ {es : List PySem.Expr}, sizeOf es < k → ∀ e ∈ es, SE C n e := fun h e he => (lst h e he).1
    have opt : ∀ {o : Option PySem.Expr}, sizeOf o < k → ∀ e, o = some e → SE C n e := fun h e he => (ih e (szO (he ▸ h))).1
    have noT : ∀ {e : PySem.Expr}, (∀ sc m H Q, awT C n e sc m H Q → False) → STr C n e := fun h A env sc m H s Q X q => (h _ _ _ _ q).elim
    have noE : ∀ {e : PySem.Expr}, (∀ sc m H Q, awE C n e sc m H Q → False) → SE C n e := fun h A env sc m H s Q X q => (h _ _ _ _ q).elim
    cases e with
    | Constant c kk pos => exact ⟨se_Constant (k := id), noT fun sc m H Q h => h⟩
    | Name x pos => exact ⟨se_Name G, st_Name G⟩
    | BinOp l op r pos =>
      rw [PySem.Expr.BinOp.sizeOf_spec] at hk
      exact ⟨se_BinOp G (ih l (sz1 (szT (szT (szT hk))))).1 (ih r (szL (pA p1) (szT hk))).1, noT fun sc m H Q h => h⟩
    | UnaryOp op x pos =>
      rw [PySem.Expr.UnaryOp.sizeOf_spec] at hk
      have hx := ih x (szL p1 (szT hk))
      refine ⟨se_UnaryOp hx.1, ?_⟩
      cases op with
      | Not => exact st_Not hx.2
      | _ => exact noT fun sc m H Q h => h
    | IfExp t b o pos =>
      rw [PySem.Expr.IfExp.sizeOf_spec] at hk
      exact ⟨se_IfExp (ih t (sz1 (szT (szT (szT hk))))).2 (ih b (szL p1 (szT (szT hk)))).1 (ih o (szL (pA p1) (szT hk))).1, noT fun sc m H Q h => h⟩
    | BoolOp op es pos =>
      rw [PySem.Expr.BoolOp.sizeOf_spec] at hk
      have hx := @lst es (szL p1 (szT hk))
      exact ⟨se_BoolOp fun e he => (hx e he).1, st_BoolOp fun e he => (hx e he).2⟩
    | Compare l ops rs pos =>
      rcases ops with _ | ⟨op, _ | ⟨op2, ops⟩⟩ <;> rcases rs with _ | ⟨r, _ | ⟨r2, rs⟩⟩ <;> first
        | (rw [PySem.Expr.Compare.sizeOf_spec] at hk
           have hl := (ih l (sz1 (szT (szT (szT hk))))).1
           have hr := (ih r (szS (szL (pA p1) (szT hk)))).1
           exact ⟨se_Compare G hl hr, st_Compare G hl hr⟩)
        | exact ⟨noE fun sc m H Q h => h, noT fun sc m H Q h => h⟩
    | Tuple es kk pos =>
      rw [PySem.Expr.Tuple.sizeOf_spec] at hk
      exact ⟨se_Tuple (lse (sz1 (szT (szT hk)))), noT fun sc m H Q h => h⟩
    | List es pos =>
      rw [PySem.Expr.List.sizeOf_spec] at hk
      exact ⟨se_List G (lse (sz1 (szT hk))), noT fun sc m H Q h => h⟩
    | Dict ks vs pos => exact ⟨se_Dict G, noT fun sc m H Q h => h⟩
    | Attribute o x pos =>
      rw [PySem.Expr.Attribute.sizeOf_spec] at hk
      exact ⟨se_Attribute G (ih o (sz1 (szT (szT hk)))).1, noT fun sc m H Q h => h⟩
    | Subscript v i pos =>
      rw [PySem.Expr.Subscript.sizeOf_spec] at hk
      have hv := (ih v (sz1 (szT (szT hk)))).1
      have hI : sizeOf i < k := szL p1 (szT hk)
      refine ⟨?_, noT fun sc m H Q h => h⟩
      cases hi : isSlice i with
      | false => exact se_Subscript G hi hv (ih i hI).1
      | true =>
        obtain ⟨lo, hi, st, p, rfl⟩ := isSlice_inv hi
        rw [PySem.Expr.Slice.sizeOf_spec] at hI
        exact se_Slice G hv (opt (sz0 (szT (szT (szT hI))))) (opt (sz0 (szT (szT hI)))) (opt (sz0 (szT hI)))
    | Call f as ks pos =>
      rcases ks with _ | ⟨k1, ks⟩
      · rw [PySem.Expr.Call.sizeOf_spec] at hk
        have hF : sizeOf f < k := sz1 (szT (szT (szT hk)))
        have hA := @lse as (szL p1 (szT (szT hk)))
        have hf1 := (ih f hF).1
        cases hf : isAttr f with
        | false => exact ⟨se_Call G hf hf1 hA, st_Call G hf1 hA⟩
        | true =>
          obtain ⟨o, x, p, rfl⟩ := isAttr_inv hf
          rw [PySem.Expr.Attribute.sizeOf_spec] at hF
          exact ⟨se_Method G (ih _ (sz0 (szT (szT hF)))).1 hA, st_Call G hf1 hA⟩
      · refine ⟨noE fun sc m H Q h => ?_, noT fun sc m H Q h => h⟩
        cases f <;> exact h
    | ListComp elt gens scope pos =>
      refine ⟨fun A env sc m H s Q X h => ?_, noT fun sc m H Q h => h⟩
      obtain ⟨x, px, iter, rfl⟩ := awE_LC h
      rw [PySem.Expr.ListComp.sizeOf_spec] at hk
      have hi := szS (szL p1 (szT (szT hk)))
      rw [PySem.Comprehension.mk.sizeOf_spec] at hi
      exact se_ListComp G (ih iter (sz0 (szT (szT hi)))).1 (ih elt (sz1 (szT (szT (szT hk))))).1 A env sc m H s Q X h
    | _ => exact ⟨noE fun sc m H Q h => h, noT fun sc m H Q h => h⟩

theorem seAll (G : Good C mg mb) (e : PySem.Expr) : SE C n e := (sx G _ e (Nat.lt_succ_self _)).1
theorem stAll (G : Good C mg mb) (e : PySem.Expr) : STr C n e := (sx G _ e (Nat.lt_succ_self _)).2
end
end
section
open PySem PySem.W PySem.Calls PyProof.Rows
open scoped Classical

theorem atKey_map {K : Type} [DecidableEq K] (k : K) (v : Value) (x : K) : ∀ (xs : List (K × Addr × Value)), (atKey (xs.map (putAt k v)) x).map (·.2) = if x = k then ((atKey xs x).map (·.2)).map (fun _ => v) else (atKey xs x).map (·.2)
  | [] => by simp [atKey]
  | a :: r => by
    have ih := atKey_map k v x r
    unfold atKey at ih ⊢
    rw [List.map_cons, List.find?_cons, List.find?_cons]
    by_cases h1 : a.1 = k
    · have e : putAt k v a = (a.1, a.2.1, v) := by unfold putAt; rw [if_pos h1]
      rw [e]
      by_cases h2 : a.1 = x
      · simp only [h2, decide_true, Option.map_some]
        rw [if_pos (h2 ▸ h1)]
      · simp only [h2, decide_false]
        exact ih
    · have e : putAt k v a = a := by unfold putAt; rw [if_neg h1]
      rw [e]
      by_cases h2 : a.1 = x
      · simp only [h2, decide_true, Option.map_some]
        rw [if_neg (h2 ▸ h1)]
      · simp only [h2, decide_false]
        exact ih

theorem atKey_stored {K : Type} [DecidableEq K] (xs : List (K × Addr × Value)) (k : K) (a : Addr) (v : Value) (x : K) : (atKey (storedH xs k a v) x).map (·.2) = if x = k then some v else (atKey xs x).map (·.2) := by
  unfold storedH
  by_cases h : (atKey xs k).isSome = true
  · rw [if_pos h, atKey_map]
    by_cases hx : x = k
    · subst hx
      rw [if_pos rfl, if_pos rfl]
      obtain ⟨b, hb⟩ := Option.isSome_iff_exists.mp h
      rw [hb]; rfl
    · rw [if_neg hx, if_neg hx]
  · rw [if_neg h]
    have hn : atKey xs k = none := by cases e : atKey xs k with
      | none => rfl
      | some b => rw [e] at h; simp at h
    unfold atKey at hn ⊢
    rw [List.find?_append]
    by_cases hx : x = k
    · subst hx
      rw [Option.map_eq_none_iff.mp hn]; simp
    · rw [if_neg hx]
      cases e : xs.find? fun y => decide (y.1 = x) with
      | some b => rfl
      | none => simp [Ne.symm hx]
theorem storedH_length {K : Type} [DecidableEq K] (xs : List (K × Addr × Value)) (k : K) (a : Addr) (v : Value) : (storedH xs k a v).length ≤ xs.length + 1 := by
  unfold storedH
  split <;> simp

noncomputable def FlowRel (h : Heap) : Fl → Flow → Prop
  | .next, f => f = .next
  | .brk, f => f = .brk
  | .cont, f => f = .cont
  | .ret p, f => ∃ v, f = .ret v ∧ VRel h p v

noncomputable def PostS (C : Ctx) (env : Env) (H : AH) (s : Shared) (Q : Fl → Loc → AH → Prop) : Flow → Shared → Prop :=
  fun f s' => ∃ fl m' H', FlowRel s'.heap fl f ∧ St C H' s' ∧ Stp (WE env) H s.heap H' s'.heap ∧ FRel C env H' s'.heap m' ∧ Q fl m' H'
noncomputable def PostA (C : Ctx) (env : Env) (H : AH) (s : Shared) (k : Loc → AH → Prop) : Unit → Shared → Prop :=
  fun _ s' => ∃ m' H', St C H' s' ∧ Stp (WE env) H s.heap H' s'.heap ∧ FRel C env H' s'.heap m' ∧ k m' H'

section
variable {C : Ctx} {n : Nat} {A : Around} {env : Env} {m : Loc} {H : AH} {s : Shared} {mg mb : PySem.Str → Option Value}

theorem Stp.all {W : Addr → Prop} {H H' : AH} {h h' : Heap} (x : Stp NoW H h H' h') : Stp W H h H' h' := x.widen fun _ f => f.elim

theorem setItem_sound {o i p : PV} {vo vi v : Value} {k : AH → Prop} (R : Room A n) (S : St C H s) (ro : VRel s.heap o vo) (ri : VRel s.heap i vi) (r : VRel s.heap p v) (h : awSetItem o i p H k) :
    wpAny (model C.prog C.w) A (setItem vo vi v) (fun _ s' => PostU C H s k s') NoE s := by
  cases h with
  | @int a j p m n _ _ ea hn q =>
    obtain rfl := ro
    obtain ⟨t, rfl⟩ := ri
    obtain ⟨kvs, hd, hl, hf⟩ := S.rep _ _ ea
    refine wpAny_setItem_pairs (knd := intKind C.prog C.w) (k := j) isK hd (fun h' hd' hs => ?_) (by have := line_is; clear q; omega)
    obtain ⟨S', T'⟩ := S.change (t := s.toks + 1) (o := .idict (fun x => if x = j then some p else m x) (n + 1)) ea hs fun i => ⟨_, hd', Nat.le_trans (stored_length_le kvs j v) (Nat.succ_le_succ hl), fun x => by
      rw [valueAt_stored]
      dsimp only
      by_cases hx : x = j
      · rw [if_pos hx, if_pos hx]; exact ⟨v, rfl, r.mono i⟩
      · rw [if_neg hx, if_neg hx]; exact (hf x).mono i⟩
    exact ⟨_, S', T', q⟩
  | @key a ks p m n _ _ ea hk hn q =>
    obtain rfl := ro
    have ri' := ri
    obtain ⟨b, items, rfl, _⟩ := ri
    obtain ⟨xs, hd, hl, hf⟩ := S.rep _ _ ea
    refine wpAny_setItem_heap (knd := keyKind C.prog C.w) (k := ks) R.unit ⟨hk, ri'⟩ hd (fun h' hd' hs => ?_) (by have := line_is; clear q; omega)
    obtain ⟨S', T'⟩ := S.change (t := s.toks + (keyKind C.prog C.w).draws ks) (o := .tdict (fun x => if x = ks then some p else m x) (n + 1)) ea hs fun i => ⟨_, hd', by have := storedH_length xs ks b v; clear q hf; omega, fun x => by
      rw [atKey_stored]
      dsimp only
      by_cases hx : x = ks
      · rw [if_pos hx, if_pos hx]; exact ⟨v, rfl, r.mono i⟩
      · rw [if_neg hx, if_neg hx]; exact (hf x).mono i⟩
    exact ⟨_, S', T', q⟩

theorem kind_of_st {x : PySem.Str} (h : stOk env.scope x) : env.kindOf x = some .local ∨ env.kindOf x = some .cell := h

theorem names_sound' {ts : List PySem.Expr} {ps : List PV} {m : Loc} {k : Loc → Prop} (h : awNames' env.scope ts ps m k) : ∀ {vs : List Value} {s : Shared}, St C H s → FRel C env H s.heap m → VRels s.heap ps vs →
    wpAny (model C.prog C.w) A (assignInOrder ((assignEach ts env).map (·.2)) vs) (PostA C env H s fun m' H' => H' = H ∧ k m') NoE s := by
  induction h with
  | @nil m k q => intro vs s S F r; obtain rfl := r; exact wpAny_pure ⟨m, H, S, Stp.refl _ _ _, F, rfl, q⟩
  | @cons x xp ts p ps m k hs q ih =>
    intro vs s S F r
    obtain ⟨v, ws, rfl, rv, rws⟩ := r
    show wpAny _ A (do holding ws (assign (.Name x xp) env v); assignInOrder ((assignEach ts env).map (·.2)) ws) _ _ s
    refine wpAny_bind (wpAny_holding (wpAny_assign_Name (store_sound S F (kind_of_st hs) rv fun s' S' T' F' => ?_)))
    exact wpAny_mono (ih S' F' (rws.mono T'.imm)) (fun _ s2 ⟨m2, H2, S2, T2, F2, e, q⟩ => ⟨m2, H2, S2, T'.trans T2, F2, e, q⟩) fun _ _ f => f
theorem names_sound {ts : List PySem.Expr} {ps : List PV} {vs : List Value} {m : Loc} {s : Shared} {k : Loc → Prop} (S : St C H s) (F : FRel C env H s.heap m) (r : VRels s.heap ps vs) (h : awNames ts ps env.scope m k) :
    wpAny (model C.prog C.w) A (assignInOrder ((assignEach ts env).map (·.2)) vs) (PostA C env H s fun m' H' => H' = H ∧ k m') NoE s := names_sound' h S F r

theorem names_length {ts : List PySem.Expr} {ps : List PV} {m : Loc} {k : Loc → Prop} {sc : Scope} (h : awNames' sc ts ps m k) : (assignEach ts env).length = ps.length ∧ (assignEach ts env).findIdx? (·.1) = none := by
  induction h with
  | nil => exact ⟨rfl, rfl⟩
  | @cons x xp ts p ps m k hs q ih =>
    rw [show assignEach (.Name x xp :: ts) env = (false, assign (.Name x xp) env) :: assignEach ts env from rfl]
    refine ⟨congrArg (· + 1) ih.1, ?_⟩
    rw [List.findIdx?_cons]; simp [ih.2]

theorem asg_sound (G : Good C mg mb) {t : PySem.Expr} {p : PV} {v : Value} {k : Loc → AH → Prop} (X : At C n A env env.scope m H s) (r : VRel s.heap p v) (h : awA C n t p env.scope m H k) :
    wpAny (model C.prog C.w) A (assign t env v) (PostA C env H s k) NoE s := by
  have h : awA' C n env.scope m H k t p := h
  cases h with
  | @name x xp _ hs q => exact wpAny_assign_Name (store_sound X.S X.F (kind_of_st hs) r fun s' S' T' F' => ⟨_, H, S', T', F', q⟩)
  | @attr o x xp _ q =>
    rw [arm_assign_Attribute]
    refine wpAny_bind (wpAny_holding ((seAll G o).seq X q fun vo s1 ov H1 ro X1 T1 h1 => wpAny_bind (wpAny_standAt (wpAny_bind (wpAny_holding ?_)))))
    refine wpAny_mono (set_attr_sound G X1.S ro (r.mono T1.imm) h1) (fun _ s2 ⟨H2, S2, T2, q⟩ => wpAny_release ⟨m, H2, S2, (T1.trans T2).all, X.F.stp0 (T1.trans T2), q⟩) fun _ _ f => f
  | @sub o i xp _ hi q =>
    rw [arm_assign_Subscript]
    refine wpAny_bind (wpAny_holding ((seAll G o).seq X q fun vo s1 ov H1 ro X1 T1 h1 => wpAny_bind (wpAny_holding ((seAll G i).seq X1 h1 fun vi s2 iv H2 ri X2 T2 h2 => wpAny_bind (wpAny_standAt (wpAny_bind (wpAny_holding ?_)))))))
    refine wpAny_mono (setItem_sound X2.R X2.S (ro.mono T2.imm) ri ((r.mono T1.imm).mono T2.imm) h2) (fun _ s3 ⟨H3, S3, T3, q⟩ => wpAny_release ⟨m, H3, S3, ((T1.trans T2).trans T3).all, X.F.stp0 ((T1.trans T2).trans T3), q⟩) fun _ _ f => f
  | @tup ts kk xp ps q =>
    obtain ⟨a, items, rfl, ht, hr⟩ := r
    obtain ⟨h1, h2⟩ := names_length (env := env) q
    refine wpAny_assign_Tuple X.R.hd ht (h1.trans (len_rels hr)) h2 fun h' hs => ?_
    have keep : ∀ b o, s.heap.get? b = some o → h'.get? b = some o := fun b o e => hs b o (Nat.ne_of_lt (Heap.lt_size e)) e
    have T1 : Stp NoW H s.heap H h' := Stp.of_keeps keep
    exact wpAny_mono (names_sound (X.S.keeps (t := s.toks) keep) (X.F.stp0 T1) (hr.mono T1.imm) q) (fun _ s2 ⟨m2, H2, S2, T2, F2, e, q⟩ => ⟨m2, H2, S2, T1.all.trans T2, F2, by subst e; exact q⟩) fun _ _ f => f

theorem letOwned_sound {t : PySem.Expr} {src : Src} {it : Addr} {i : Nat} {v : Value} {Q : Unit → Shared → Prop} {E : Value → Shared → Prop} (ht : isNameOrTup t = true) (I : IterAt s.heap it i src) (q : Q () s) :
    wpAny (model C.prog C.w) A (letOwnedTupleGo t (.ref it) v) Q E s := by
  cases t with
  | Name x xp => exact wpAny_pure q
  | Tuple es kk p =>
    cases v with
    | ref T =>
      have main : ∀ (T : String) (vs : Array Value), (["enumerate", "zip", "dict_itemiterator", "dict_reverseitemiterator", "odict_iterator", "itertools.zip_longest", "itertools.pairwise"].contains T) = false →
          (∃ o, s.heap.get? it = some o ∧ o.cls = .type T ∧ o.data = .fields vs) → wpAny (model C.prog C.w) A (letOwnedTupleGo (.Tuple es kk p) (.ref it) (.ref ‹Addr›)) Q E s := by
        rintro T vs hT ⟨o, ho, hc, hd⟩
        unfold letOwnedTupleGo
        refine wpAny_bind (wpAny_load ho ?_)
        rw [hc, hd]
        dsimp only
        rw [hT, Bool.false_and, if_neg (by decide)]
        exact wpAny_pure q
      cases src with
      | lst a l => obtain ⟨o, ho, hc, hd⟩ := I; exact main "list_iterator" _ (by decide) ⟨o, ho, hc, hd⟩
      | tup l => obtain ⟨_, _, ⟨o, ho, hc, hd⟩, _⟩ := I; exact main "tuple_iterator" _ (by decide) ⟨o, ho, hc, hd⟩
      | rng a b c => obtain ⟨_, ho, _⟩ := I; exact main "range_iterator" _ (by decide) ⟨_, ho, rfl, rfl⟩
    | _ => exact wpAny_pure q
  | _ => cases ht
end
end
section
open PySem PySem.W PySem.Calls PyProof.Rows
open scoped Classical

noncomputable def SS (C : Ctx) (n : Nat) (st : PySem.Stmt) : Prop := ∀ (A : Around) (env : Env) (m : Loc) (H : AH) (s : Shared) (Q : Fl → Loc → AH → Prop), At C n A env env.scope m H s → awS C n st env.scope m H Q →
  wpAny (model C.prog C.w) A (exec st env) (PostS C env H s Q) NoE s

section
variable {C : Ctx} {n : Nat} {A : Around} {env : Env} {m : Loc} {H : AH} {s : Shared} {mg mb : PySem.Str → Option Value}

theorem At.nextF {H' : AH} {s' : Shared} {m' : Loc} {sc : Scope} (X : At C n A env sc m H s) (S' : St C H' s') (F' : FRel C env H' s'.heap m') : At C n A env sc m' H' s' := ⟨X.R, S', F', X.K⟩

theorem wpFromS {H1 : AH} {s1 : Shared} {Q : Fl → Loc → AH → Prop} {t : Sem Flow} (T : Stp (WE env) H s.heap H1 s1.heap) (h : wpAny (model C.prog C.w) A t (PostS C env H1 s1 Q) NoE s1) : wpAny (model C.prog C.w) A t (PostS C env H s Q) NoE s1 :=
  wpAny_mono h (fun _ _ ⟨fl, m', H', r, S', T', F', q⟩ => ⟨fl, m', H', r, S', T.trans T', F', q⟩) fun _ _ f => f

theorem stmts_sound : ∀ {sts : List PySem.Stmt} (_ : ∀ st ∈ sts, SS C n st) {m : Loc} {H : AH} {s : Shared} {Q : Fl → Loc → AH → Prop}, At C n A env env.scope m H s → awSs C n sts env.scope m H Q →
    wpAny (model C.prog C.w) A (execs sts env) (PostS C env H s Q) NoE s
  | [], _, m, H, s, Q, X, h => by
    exact wpAny_execs_nil ⟨.next, m, H, rfl, X.S, Stp.refl _ _ _, X.F, h⟩
  | st :: r, he, m, H, s, Q, X, h => by
    refine wpAny_execs_cons (wpAny_mono (he st (by simp) _ _ _ _ _ _ X h) (fun f s1 ⟨fl, m1, H1, r1, S1, T1, F1, q⟩ => ?_) fun _ _ f => f)
    cases fl with
    | next =>
      cases r1
      exact wpFromS T1 (stmts_sound (fun x hx => he x (List.mem_cons_of_mem _ hx)) (X.nextF S1 F1) q)
    | brk => cases r1; exact ⟨.brk, m1, H1, rfl, S1, T1, F1, q⟩
    | cont => cases r1; exact ⟨.cont, m1, H1, rfl, S1, T1, F1, q⟩
    | ret p => obtain ⟨v, rfl, rv⟩ := r1; exact ⟨.ret p, m1, H1, ⟨v, rfl, rv⟩, S1, T1, F1, q⟩

theorem swaps_false {v : PySem.Expr} {t : Option PySem.Expr} {k : Nat} (h : isComp v = false) : swapsWith v t k env = pure false := by
  cases v <;> first | rfl | cases h
theorem swapped_none {t v : PySem.Expr} (h : isTupList t = false) : swappedStores [t] v env = pure none := by
  cases t <;> first | rfl | cases h

theorem ss_Expr (G : Good C mg mb) {v : PySem.Expr} {pos} : SS C n (.Expr v pos) := fun A env m H s Q X h => by
  refine wpAny_Expr_any ((seAll G v).seq X h.2 fun u s1 p H1 r1 X1 T1 q => ⟨.next, m, H1, rfl, X1.S, T1.all, X1.F, q⟩) ?_ (swaps_false h.1)
  unfold interactive
  rw [X.F.kind]; rfl

theorem ss_Return (G : Good C mg mb) {v : Option PySem.Expr} {pos} : SS C n (.Return v pos) := fun A env m H s Q X h => by
  cases v with
  | none =>
    exact wpAny_Return_none ⟨.ret .none, m, H, ⟨.none, rfl, by simp only [VRel]⟩, X.S, Stp.refl _ _ _, X.F, h⟩
  | some e =>
    exact wpAny_Return_some ((seAll G e).seq X h fun u s1 p H1 r1 X1 T1 q => ⟨.ret p, m, H1, ⟨u, rfl, r1⟩, X1.S, T1.all, X1.F, q⟩)

theorem ss_If (G : Good C mg mb) {t : PySem.Expr} {b o : List PySem.Stmt} {pos} (hb : ∀ st ∈ b, SS C n st) (ho : ∀ st ∈ o, SS C n st) : SS C n (.If t b o pos) := fun A env m H s Q X h => by
  refine wpAny_If ((stAll G t).seq X h fun c s1 H1 X1 T1 h1 => ?_)
  cases c with
  | true => rw [if_pos rfl] at h1 ⊢; exact wpFromS T1.all (stmts_sound hb X1 h1)
  | false => rw [if_neg (by decide)] at h1 ⊢; exact wpFromS T1.all (stmts_sound ho X1 h1)

theorem ss_AugAssign (G : Good C mg mb) {x : PySem.Str} {xp : Pos} {v : PySem.Expr} {pos} : SS C n (.AugAssign (.Name x xp) .Add v pos) := fun A env m H s Q X h => by
  obtain ⟨hst, old, ho, h⟩ := h
  rw [arm_exec_AugAssign]
  refine wpAny_bind (wpAny_standAt (wpAny_bind (wpAny_mono (load_sound (Q := fun p H' => p = .int old ∧ H' = H) G X.S X.F X.K (by unfold awName; rw [ho]; exact ⟨rfl, rfl⟩)) (fun vo s1 ⟨p, H1, r1, S1, T1, e1, e2⟩ => ?_) fun _ _ f => f)))
  subst e1 e2
  simp only [VRel] at r1
  obtain ⟨t, rfl⟩ := r1
  refine wpAny_bind (wpAny_holding ((seAll G v).seq (X.next S1 T1) h fun u s2 p H2 r2 X2 T2 q => wpAny_bind (wpAny_standAt (wpAny_bind ?_))))
  obtain ⟨j, rfl, q⟩ := q
  simp only [VRel] at r2
  obtain ⟨t2, rfl⟩ := r2
  refine wpAny_operating (PyProof.Rows.iadd_int (wpAny_bind (wpAny_standAt (wpAny_bind (wpAny_bindName (store_sound (p := .int (old + j)) (X2.S.toks (s2.toks + 1)) X2.F (kind_of_st hst) (by simp only [VRel]; exact ⟨_, rfl⟩) fun s' S' T' F' => wpAny_pure ?_))))))
  exact ⟨.next, _, _, rfl, S', (T1.trans T2).all.trans T', F', q⟩

theorem awS_Assign {t v : PySem.Expr} {pos} {sc : Scope} {Q : Fl → Loc → AH → Prop} (hv : isComp v = false) : awS C n (.Assign [t] v pos) sc m H Q = (isComp v = false ∧ isTupList t = false ∧ awE C n v sc m H fun p H1 => awA C n t p sc m H1 fun m' H2 => Q .next m' H2) := by
  cases t <;> first
    | rfl
    | (cases v <;> first | rfl | cases hv)

theorem ss_Assign (G : Good C mg mb) {t v : PySem.Expr} {pos} (hv : isComp v = false) : SS C n (.Assign [t] v pos) := fun A env m H s Q X h => by
  rw [awS_Assign hv] at h
  obtain ⟨_, ht, h⟩ := h
  rw [arm_exec_Assign]
  have e1 : swapsWithSole [t] v pos.line env = pure false := swaps_false hv
  rw [e1, swapped_none ht]
  refine wpAny_bind (wpAny_standAt ?_)
  show wpAny _ A (do let u ← eval v env; assignStores env u none ((assignEach [t] env).map (·.2))) _ _ s
  refine wpAny_bind ((seAll G v).seq X h fun u s1 p H1 r1 X1 T1 h1 => ?_)
  have e2 : (assignEach [t] env).map (·.2) = [assign t env] := by
    have h2 : awA' C n env.scope m H1 _ t p := h1
    cases h2 <;> rfl
  rw [e2]
  show wpAny _ A (assign t env u >>= fun _ => (pure Flow.next : Sem Flow)) _ _ s1
  exact wpAny_bind (wpAny_mono (asg_sound G X1 r1 h1) (fun _ s2 ⟨m2, H2, S2, T2, F2, q⟩ => wpAny_pure ⟨.next, m2, H2, rfl, S2, T1.all.trans T2, F2, q⟩) fun _ _ f => f)

theorem ss_AssignComp (G : Good C mg mb) {y : PySem.Str} {yp : Pos} {elt : PySem.Expr} {gens : List Comprehension} {scope : Scope} {cp pos : Pos} : SS C n (.Assign [.Name y yp] (.ListComp elt gens scope cp) pos) := fun A env m H s Q X h => by
  obtain ⟨⟨_, hy, hline, hnames⟩, h⟩ := h
  obtain ⟨x, px, iter, rfl⟩ := awE_LC h
  obtain ⟨hok, hset, h⟩ := h
  have ok := compOk_spec hok
  obtain ⟨cl, hcl, h2, h3⟩ := closureFor_some (env := env) (scope := scope) fun z hz e => X.F.call _ (X.K.cell _ (ok.free z hz e).2)
  have hsw : swapsWith (.ListComp elt [⟨.Name x px, iter, [], 0⟩] scope cp) (some (.Name y yp)) pos.line env = pure true := by
    unfold swapsWith
    have e1 : (env.blockKind == ScopeKind.function) = true := by unfold Env.blockKind; rw [X.F.kind]; rfl
    have e2 : env.kindOf y = some .local := hy
    have e3 : (yp.line == (PySem.Expr.ListComp elt [⟨.Name x px, iter, [], 0⟩] scope cp).pos.line) = true := by
      show (yp.line == cp.line) = true
      rw [hline]; simp
    simp only [e1, e2, e3, hnames]
    rfl
  rw [exec_Assign_Name_used _ _ _ _ hsw]
  refine wpAny_bind (wpAny_standAt (wpAny_bind ?_))
  show wpAny _ A (do let _ ← comprehension (.ListComp elt [⟨.Name x px, iter, [], 0⟩] scope cp) scope env _ (newList []) false (eval iter env) (some (assign (.Name y yp) env))) _ _ s
  refine wpAny_bind (wpAny_mono (wpAny_comprehension_free (use := some (assign (.Name y yp) env)) (Q := fun _ s' => PostS C env H s Q .next s') rfl (isSet_folded hset) hcl ok.kind ok.loc ((seAll G iter).seq X h fun vi s1 iv H1 ri X1 T1 h1 => ?_)) (fun _ s' hq => wpAny_pure (wpAny_pure hq)) fun _ _ e => e)
  obtain ⟨src, hsrc, hlen, run⟩ := awIter_src h1
  refine comp_block (B := fun p H2 k => awE C n elt scope (compLoc scope m x p) H2 k) G.nolimit (fun _ _ h => h) X1.R.hd X1.S X1.F X1.K ok h2 h3 ri hsrc hlen (fun cenv s p H Q K F S h => seAll G elt _ _ _ _ _ _ _ ⟨X1.R, S, F, K⟩ h) run ?_
  intro s' H' vs D Cl mm items nn S' T' fD fC hDC hDm hHC hHD hmm ho hr q
  have hbC := X1.S.hb_none fC
  have hbD := X1.S.hb_none fD
  have S2 := S'.adopt (a := D) (o := .list vs) hbD hDm ⟨items, nn, ho, hr⟩
  have T2 : Stp NoW H1 s1.heap (H'.set D (.list vs)) s'.heap := T'.adopt (.list vs) fD
  have F2 := X1.F.stp0 T2
  have alive : ∀ a, WE env a → (s1.heap.get? a).isSome = true := fun a ha => by
    rcases ha with rfl | ⟨z, hz⟩
    · obtain ⟨_, ⟨o, _, _, ho, _⟩, _⟩ := X1.F.ns; rw [ho]; rfl
    · obtain ⟨_, _, _, _, o, ho, _⟩ := X1.F.cell z a hz; rw [ho]; rfl
  have hWC : ∀ a, WE env a → a ≠ Cl := fun a ha e => by have := alive a ha; rw [e, fC] at this; cases this
  show wpAny _ A (assign (.Name y yp) env (.ref D)) _ _ s'
  refine wpAny_assign_Name (store_local (p := .val (.ref D)) S2 F2 hy (by simp only [VRel]) fun s3 S3 T3 F3 => ?_)
  have hCl : (H'.set D (.list vs)) Cl = none := by unfold AH.set; rw [if_neg (Ne.symm hDC)]; exact hHC
  have hmm3 : s3.heap.Ns Cl mm := by
    obtain ⟨o, es, ep, ho', r⟩ := hmm
    exact ⟨o, es, ep, T3.frm Cl o ho' hCl (fun e => hWC env.locals (.inl rfl) e.symm), r⟩
  refine ⟨mm, hmm3, fun h' hs => ?_⟩
  obtain ⟨o, _, _, hoC, hdC, _⟩ := id hmm3
  obtain ⟨S4, T4⟩ := S3.side (t := s3.toks) hCl hbC (fun b o hb e => (hs.2 b hb).trans e) (fun items ⟨o', ho', _, _, hd'⟩ => by rw [hoC] at ho'; cases ho'; rw [hdC] at hd'; cases hd') (fun a b c t u w e => by unfold IsRange at e; rw [hoC] at e; cases e; cases hdC)
  have T5 : Stp (fun b => WE env b ∨ b = Cl) H1 s1.heap (H'.set D (.list vs)) h' := (T2.all.trans (T3.widen fun a e => .inl (.inl e))).trans (T4.widen fun a e => .inr e)
  have T6 : Stp (WE env) H1 s1.heap (H'.set D (.list vs)) h' := by
    have al : ∀ a, (s1.heap.get? a).isSome = true → ¬ WE env a → ¬ (WE env a ∨ a = Cl) := fun a e w q => by
      rcases q with q | q
      · exact w q
      · subst q; rw [fC] at e; cases e
    exact ⟨T5.imm, fun a o e n w => T5.frm a o e n (al a (by rw [e]; rfl) w), fun a e w => T5.dom a e (al a e w), fun a e w => T5.live a e (al a e w)⟩
  exact ⟨.next, _, _, rfl, S4, T1.all.trans T6, F3.stp T4 (fun a ha => hWC a ha), q D hHD⟩
end
end
section
open PySem PySem.W PySem.Calls PyProof.Rows
open scoped Classical

section
variable {C : Ctx} {n : Nat} {A : Around} {env : Env} {m : Loc} {H : AH} {s : Shared} {mg mb : PySem.Str → Option Value}

theorem ss_While (G : Good C mg mb) {t : PySem.Expr} {b : List PySem.Stmt} {pos} (hb : ∀ st ∈ b, SS C n st) : SS C n (.While t b [] pos) := fun A env m H s Q X h => by
  obtain ⟨I, ⟨k, hk⟩, step⟩ := h
  refine wpAny_While (codeAny_whileLoop (fun k s' => ∃ m' H', At C n A env env.scope m' H' s' ∧ Stp (WE env) H s.heap H' s'.heap ∧ I k m' H') (fun k s' ⟨m', H', X', T', hI⟩ => ?_) k ⟨m, H, X, Stp.refl _ _ _, hk⟩)
  refine wpAny_mono ((stAll G t).seq (k := fun c s2 => if c = true then wpAny (model C.prog C.w) A (execs b env) (fun f s₃ => match f with
            | .next | .cont => ∃ m, m < k ∧ ∃ m' H', At C n A env env.scope m' H' s₃ ∧ Stp (WE env) H s.heap H' s₃.heap ∧ I m m' H'
            | .brk => PostS C env H s Q .next s₃
            | .ret v => PostS C env H s Q (.ret v) s₃) NoE s2 else PostS C env H s Q .next s2) X' (step k m' H' hI) fun c s1 H1 X1 T1 h1 => ?_) (fun c s1 h1 => ?_) fun _ _ f => f.elim
  · cases c with
    | true =>
      rw [if_pos rfl] at h1 ⊢
      refine wpAny_mono (stmts_sound hb X1 h1) (fun f s2 ⟨fl, m2, H2, r, S2, T2, F2, q⟩ => ?_) fun _ _ f => f
      have T3 := (T'.trans T1.all).trans T2
      cases fl with
      | next => cases r; obtain ⟨j, hj, hI'⟩ := q; exact ⟨j, hj, m2, H2, X1.nextF S2 F2, T3, hI'⟩
      | cont => cases r; obtain ⟨j, hj, hI'⟩ := q; exact ⟨j, hj, m2, H2, X1.nextF S2 F2, T3, hI'⟩
      | brk => cases r; exact ⟨.next, m2, H2, rfl, S2, T3, F2, q⟩
      | ret p => obtain ⟨v, rfl, rv⟩ := r; exact ⟨.ret p, m2, H2, ⟨v, rfl, rv⟩, S2, T3, F2, q⟩
    | false =>
      rw [if_neg (by decide)] at h1 ⊢
      exact ⟨.next, m', H1, rfl, X1.S, T'.trans T1.all, X1.F, h1⟩
  · cases c with
    | true =>
      rw [if_pos rfl] at h1 ⊢
      refine wpAny_mono h1 (fun f s2 h2 => ?_) fun _ _ f => f.elim
      cases f <;> exact h2
    | false =>
      rw [if_neg (by decide)] at h1 ⊢
      exact wpAny_execs_nil h1

structure FInv (C : Ctx) (n : Nat) (A : Around) (env : Env) (src : Src) (it : Addr) (H₀ : AH) (h₀ : Heap) (B : Loc → AH → (Fl → Loc → AH → Prop) → Prop) (asg : PV → Loc → AH → (Loc → AH → Prop) → Prop) (Q : Fl → Loc → AH → Prop) (i : Nat) (m : Loc) (H : AH) (s : Shared) : Prop where
  X : At C n A env env.scope m H s
  T : Stp (fun b => b = it ∨ WE env b) H₀ h₀ H s.heap
  I : IterAt s.heap it i src
  hi : H it = none
  le : i ≤ src.items.length
  run : awLoop B asg src.chk (src.items.drop i) m H Q

theorem awLoop_chk {B : Loc → AH → (Fl → Loc → AH → Prop) → Prop} {asg : PV → Loc → AH → (Loc → AH → Prop) → Prop} {chk : AH → Prop} {l : List PV} {m : Loc} {H : AH} {Q : Fl → Loc → AH → Prop} (h : awLoop B asg chk l m H Q) : chk H := by
  cases l <;> exact h.1

theorem for_loop (G : Good C mg mb) {t : PySem.Expr} {b : List PySem.Stmt} {src : Src} {it : Addr} {Q : Fl → Loc → AH → Prop} {R : Result → Shared → Prop} {H₀ : AH} {h₀ : Heap} (hb : ∀ st ∈ b, SS C n st) (ht : isNameOrTup t = true)
    (hbI : C.hb.get? it = none) (hw : ∀ a, WE env a → a ≠ it) 
    (hR : ∀ f s' fl m' H', FlowRel s'.heap fl f → St C H' s' → Stp (fun b => b = it ∨ WE env b) H₀ h₀ H' s'.heap → FRel C env H' s'.heap m' → Q fl m' H' → R (.ok f) s')
    (i : Nat) (inv : FInv C n A env src it H₀ h₀ (fun m1 H2 k => awSs C n b env.scope m1 H2 k) (fun p m1 H2 k => awA C n t p env.scope m1 H2 k) Q i m H s) :
    codeAny (model C.prog C.w) A (.forLoop t (.ref it) b [] env) R s := by
  refine codeAny_forLoop_any (fun k s => ∃ i m H, k = src.items.length - i ∧ FInv C n A env src it H₀ h₀ (fun m1 H2 k => awSs C n b env.scope m1 H2 k) (fun p m1 H2 k => awA C n t p env.scope m1 H2 k) Q i m H s)
    (fun k s ⟨i, m, H, hn, inv⟩ => ?_) (src.items.length - i) ⟨i, m, H, rfl, inv⟩
  obtain ⟨X, T, I, hi, le, run⟩ := inv
  obtain ⟨obI, hobI, nt, nr⟩ := I.obj
  refine wpAny_mono (Q := fun r s₁ => match r with
      | none => R (.ok .next) s₁
      | some v => wpAny (model C.prog C.w) A (letOwnedTupleGo t (.ref it) v) (fun _ s₁' => wpAny (model C.prog C.w) A (assign t env v) (fun _ s₂ => wpAny (model C.prog C.w) A (execs b env) (fun f s₃ => match f with
            | .next | .cont => ∃ j, j < k ∧ ∃ i m H, j = src.items.length - i ∧ FInv C n A env src it H₀ h₀ (fun m1 H2 k => awSs C n b env.scope m1 H2 k) (fun p m1 H2 k => awA C n t p env.scope m1 H2 k) Q i m H s₃
            | .brk => R (.ok .next) s₃
            | .ret v => R (.ok (.ret v)) s₃) NoE s₂) NoE s₁') NoE s₁)
    (E := NoE) ?_ ?_ (fun _ _ f => f.elim)
  · refine next_sound X.R.hd X.S (awLoop_chk run) I (fun p v h' tk hp rv hs I' => ?_) (fun h' tk hp hs => ?_)
    · have hil : i < src.items.length := (List.getElem?_eq_some_iff.mp hp).1
      have hd : src.items.drop i = p :: src.items.drop (i + 1) := by
        rw [List.drop_eq_getElem_cons hil, (List.getElem?_eq_some_iff.mp hp).2]
      rw [hd] at run
      obtain ⟨_, run⟩ := run
      obtain ⟨S1, T1⟩ := X.S.side (t := tk) hi hbI (fun b o hb e => (hs.2 b hb).trans e) nt nr
      have F1 := X.F.stp T1 (fun a ha => hw a ha)
      refine letOwned_sound ht I' ?_
      refine wpAny_mono (asg_sound G (X.nextF S1 F1) rv run) (fun _ s2 ⟨m2, H2, S2, T2, F2, h2⟩ => ?_) fun _ _ f => f
      have keepI : ∀ {s3 : Shared} {s4 : Shared} {H3 H4 : AH}, IterAt s3.heap it (i + 1) src → H3 it = none → Stp (WE env) H3 s3.heap H4 s4.heap → IterAt s4.heap it (i + 1) src ∧ H4 it = none := fun I3 e T3 => by
        obtain ⟨o, ho', _⟩ := I3.obj
        exact ⟨I3.mono T3.imm (by rw [T3.frm it _ ho' e (fun q => hw it q rfl), ho']), T3.dom it (by rw [ho']; rfl) (fun q => hw it q rfl) e⟩
      obtain ⟨I2, hi2⟩ := keepI (s3 := { s with heap := h', toks := tk }) I' hi T2
      refine wpAny_mono (stmts_sound hb (X.nextF S2 F2) h2) (fun f s3 ⟨fl, m3, H3, r3, S3, T3, F3, h3⟩ => ?_) fun _ _ f => f
      obtain ⟨I3, hi3⟩ := keepI I2 hi2 T3
      have T4 : Stp (fun b => b = it ∨ WE env b) H₀ h₀ H3 s3.heap := ((T.trans (T1.widen fun a e => .inl e)).trans (T2.widen fun a e => .inr e)).trans (T3.widen fun a e => .inr e)
      cases fl with
      | next => cases r3; exact ⟨src.items.length - (i + 1), by omega, i + 1, m3, H3, rfl, X.nextF S3 F3, T4, I3, hi3, hil, h3⟩
      | cont => cases r3; exact ⟨src.items.length - (i + 1), by omega, i + 1, m3, H3, rfl, X.nextF S3 F3, T4, I3, hi3, hil, h3⟩
      | brk => cases r3; exact hR _ _ .next m3 H3 rfl S3 T4 F3 h3
      | ret p => obtain ⟨v, rfl, rv⟩ := r3; exact hR _ _ (.ret p) m3 H3 ⟨v, rfl, rv⟩ S3 T4 F3 h3
    · have hd : src.items.drop i = [] := List.drop_eq_nil_of_le (List.getElem?_eq_none_iff.mp hp)
      rw [hd] at run
      obtain ⟨S1, T1⟩ := X.S.side (t := tk) hi hbI (fun b o hb e => hs b o hb e) nt nr
      exact hR _ _ .next m H rfl S1 (T.trans (T1.widen fun a e => .inl e)) (X.F.stp T1 (fun a ha => hw a ha)) run.2
  · intro r s₁ h₁
    cases r with
    | none => exact wpAny_execs_nil h₁
    | some v =>
      refine wpAny_mono h₁ (fun _ s₂ h₂ => wpAny_mono h₂ (fun _ s₃ h₃ => wpAny_mono h₃ (fun f s4 h4 => ?_) fun _ _ f => f.elim) fun _ _ f => f.elim) fun _ _ f => f.elim
      cases f <;> exact h4

theorem ss_For (G : Good C mg mb) {t iter : PySem.Expr} {b : List PySem.Stmt} {pos} (hb : ∀ st ∈ b, SS C n st) : SS C n (.For t iter b [] pos) := fun A env m H s Q X h => by
  obtain ⟨hset, ht, h⟩ := h
  refine wpAny_For ((seAll G iter).seq X h fun vi s1 iv H1 ri X1 T1 h1 => ?_) (isSet_folded hset)
  obtain ⟨src, hsrc, run⟩ := awIter_src h1
  refine iter_sound X1.S ri hsrc fun it h' hnone hge keep I => ?_
  have T2 : Stp NoW H1 s1.heap H1 h' := Stp.of_keeps keep
  have X2 : At C n A env env.scope m H1 { s1 with heap := h' } := X1.next (s' := { s1 with heap := h' }) (X1.S.keeps (t := s1.toks) keep) T2
  have hH : H1 it = none := by
    cases e : H1 it with
    | none => rfl
    | some o => obtain ⟨ob, h0⟩ := (X1.S.rep it o e).obj; rw [hnone] at h0; cases h0
  refine for_loop (src := src) (it := it) (Q := Q) (H₀ := H1) (h₀ := s1.heap) (m := m) (H := H1) (i := 0) G hb ht (X1.S.hb_none hnone) (fun a ha e => ?_) (fun f s' fl m' H' rf S' T' F' q => ?_) ⟨X2, T2.all, I, hH, Nat.zero_le _, run⟩
  · subst e
    rcases ha with rfl | ⟨z, hz⟩
    · obtain ⟨_, ⟨o, _, _, ho, _⟩, _⟩ := X1.F.ns; rw [hnone] at ho; cases ho
    · obtain ⟨_, _, _, _, o, ho, _⟩ := X1.F.cell z a hz; rw [hnone] at ho; cases ho
  · have T3 : Stp (WE env) H1 s1.heap H' s'.heap := by
      have al : ∀ a, (s1.heap.get? a).isSome = true → ¬ WE env a → ¬ (a = it ∨ WE env a) := fun a e w q => by
        rcases q with q | q
        · subst q; rw [hnone] at e; cases e
        · exact w q
      exact ⟨T'.imm, fun a o e n w => T'.frm a o e n (al a (by rw [e]; rfl) w), fun a e w => T'.dom a e (al a e w), fun a e w => T'.live a e (al a e w)⟩
    exact ⟨fl, m', H', rf, S', T1.all.trans T3, F', q⟩

theorem awS_comp {t v : PySem.Expr} {pos} {sc : Scope} {m : Loc} {H : AH} {Q : Fl → Loc → AH → Prop} (hv : isComp v = true) (h : awS C n (.Assign [t] v pos) sc m H Q) : ∃ x xp elt gens scope cp, t = .Name x xp ∧ v = .ListComp elt gens scope cp := by
  cases t with
  | Name x xp =>
    cases v with
    | ListComp elt gens scope cp => exact ⟨x, xp, elt, gens, scope, cp, rfl, rfl⟩
    | SetComp => exact Bool.noConfusion (show true = false from And.left h)
    | DictComp => exact Bool.noConfusion (show true = false from And.left h)
    | _ => exact Bool.noConfusion hv
  | _ => exact Bool.noConfusion (hv.symm.trans (And.left h))
theorem ssx (G : Good C mg mb) : ∀ (k : Nat) (st : PySem.Stmt), sizeOf st < k → SS C n st := by
  intro k
  induction k with
  | zero => intro e h; exact absurd h (Nat.not_lt_zero _)
  | succ k ih =>
    intro st hk
    have lst : ∀ {es : List PySem.Stmt}, sizeOf es < k → ∀ e ∈ es, SS C n e := fun h e he => ih e (Nat.lt_trans (List.sizeOf_lt_of_mem he) h)
    have no : ∀ {e : PySem.Stmt}, (∀ sc m H Q, awS C n e sc m H Q → False) → SS C n e := fun h A env m H s Q X q => (h _ _ _ _ q).elim
    cases st with
    | Expr v pos => exact ss_Expr G
    | Pass pos => exact fun A env m H s Q X h => wpAny_Pass ⟨.next, m, H, rfl, X.S, Stp.refl _ _ _, X.F, h⟩
    | Return v pos => exact ss_Return G
    | If t b o pos => rw [PySem.Stmt.If.sizeOf_spec] at hk; exact ss_If G (lst (szL p1 (szT (szT hk)))) (lst (szL (pA p1) (szT hk)))
    | While t b o pos =>
      cases o with
      | nil => rw [PySem.Stmt.While.sizeOf_spec] at hk; exact ss_While G (lst (szL p1 (szT (szT hk))))
      | cons _ _ => exact no fun sc m H Q h => h
    | For t it b o pos =>
      cases o with
      | nil => rw [PySem.Stmt.For.sizeOf_spec] at hk; exact ss_For G (lst (szL (pA p1) (szT (szT hk))))
      | cons _ _ => exact no fun sc m H Q h => h
    | AugAssign t op v pos =>
      cases t with
      | Name x xp =>
        cases op with
        | Add => exact ss_AugAssign G
        | _ => exact no fun sc m H Q h => h
      | _ => exact no fun sc m H Q h => h
    | Assign ts v pos =>
      rcases ts with _ | ⟨t, _ | ⟨t2, ts⟩⟩
      · refine no fun sc m H Q h => h
      · cases hv : isComp v with
        | false => exact ss_Assign G hv
        | true =>
          refine fun A env m H s Q X h => ?_
          obtain ⟨x, xp, elt, gens, scope, cp, rfl, rfl⟩ := awS_comp hv h
          exact ss_AssignComp G A env m H s Q X h
      · refine no fun sc m H Q h => ?_
        cases t <;> exact h
    | _ => exact no fun sc m H Q h => h

theorem ssAll (G : Good C mg mb) (st : PySem.Stmt) : SS C n st := ssx G _ st (Nat.lt_succ_self _)
theorem body_sound (G : Good C mg mb) {sts : List PySem.Stmt} {Q : Fl → Loc → AH → Prop} (X : At C n A env env.scope m H s) (h : awSs C n sts env.scope m H Q) : wpAny (model C.prog C.w) A (execs sts env) (PostS C env H s Q) NoE s :=
  stmts_sound (fun st _ => ssAll G st) X h
end
end
section
open PySem PySem.W PySem.Calls PyProof.Rows
open scoped Classical

noncomputable def bindLoc : List PySem.Str → List PV → Loc → Loc
  | p :: ps, a :: as, m => bindLoc ps as (m.set p a)
  | _, _, m => m

structure BRel (h : Heap) (kindOf : PySem.Str → Option NameKind) (m : Loc) (ml mc : PySem.Str → Option Value) : Prop where
  kinds : ∀ x p, m x = some p → kindOf x = some .local ∨ kindOf x = some .cell
  loc : ∀ x p, m x = some p → kindOf x = some .local → ∃ v, ml x = some v ∧ VRel h p v
  cel : ∀ x p, m x = some p → kindOf x = some .cell → ∃ v, mc x = some v ∧ VRel h p v

theorem bind_rel {h : Heap} {kindOf : PySem.Str → Option NameKind} : ∀ {ps : List PySem.Str} {as : List PV} {vs : List Value} {m : Loc} {ml mc : PySem.Str → Option Value}, VRels h as vs → (∀ x ∈ ps, kindOf x = some .local ∨ kindOf x = some .cell) → BRel h kindOf m ml mc →
    BRel h kindOf (bindLoc ps as m) (bindL kindOf (ps.zip vs) ml) (bindC kindOf (ps.zip vs) mc)
  | [], _, _, _, _, _, _, _, b => b
  | _ :: _, [], vs, _, _, _, r, _, b => by
    simp only [VRels] at r; subst r; exact b
  | p :: ps, a :: as, vs, m, ml, mc, r, hk, b => by
    simp only [VRels] at r
    obtain ⟨v, ws, rfl, rv, rws⟩ := r
    rw [List.zip_cons_cons]
    unfold bindLoc bindL bindC
    refine bind_rel rws (fun x hx => hk x (List.mem_cons_of_mem _ hx)) ?_
    have hp := hk p List.mem_cons_self
    refine ⟨fun x q e => ?_, fun x q e k => ?_, fun x q e k => ?_⟩ <;> unfold Loc.set at e <;> by_cases hx : x = p
    · subst hx; exact hp
    · rw [if_neg hx] at e; exact b.kinds x q e
    · subst hx
      rw [if_pos rfl] at e; cases e
      rw [if_pos k]
      exact ⟨v, by simp, rv⟩
    · rw [if_neg hx] at e
      obtain ⟨u, hu, ru⟩ := b.loc x q e k
      refine ⟨u, ?_, ru⟩
      split
      · simp [hx, hu]
      · exact hu
    · subst hx
      rw [if_pos rfl] at e; cases e
      rw [if_neg (by rw [k]; decide)]
      exact ⟨v, by simp, rv⟩
    · rw [if_neg hx] at e
      obtain ⟨u, hu, ru⟩ := b.cel x q e k
      refine ⟨u, ?_, ru⟩
      split
      · exact hu
      · simp [hx, hu]

theorem cellsFrom_has : ∀ (names : List (PySem.Str × NameKind)) (n : Nat) (acc : List (PySem.Str × Addr)) (x : PySem.Str), ((x, NameKind.cell) ∈ names ∨ (acc.lookup x).isSome = true) → ((cellsFrom n names acc).lookup x).isSome = true
  | [], n, acc, x, h => by
    rcases h with h | h
    · cases h
    · exact h
  | (y, k) :: r, n, acc, x, h => by
    unfold cellsFrom
    split
    · refine cellsFrom_has r _ _ x ?_
      rcases h with h | h
      · rcases List.mem_cons.mp h with e | h
        · cases e; right; simp
        · exact .inl h
      · right
        rw [List.lookup_cons]
        split <;> first | rfl | exact h
    · rename_i hk
      refine cellsFrom_has r _ _ x ?_
      rcases h with h | h
      · rcases List.mem_cons.mp h with e | h
        · cases e; exact absurd rfl hk
        · exact .inl h
      · exact .inr h

theorem CallP.mono {C : Ctx} {n n' : Nat} {f : Value} {args : List PV} {H : AH} {Q : PV → AH → Prop} (h : CallP C n f args H Q) (hn : n ≤ n') : CallP C n' f args H Q :=
  fun A s vs R S r => h A s vs ⟨R.hd, by have := R.dp; omega, by have := R.un; omega⟩ S r
theorem CallP.weaken {C : Ctx} {n : Nat} {f : Value} {args : List PV} {H : AH} {Q Q' : PV → AH → Prop} (h : CallP C n f args H Q) (k : ∀ p H', Q p H' → Q' p H') : CallP C n f args H Q' :=
  fun A s vs R S r => wpAny_mono (h A s vs R S r) (fun _ _ ⟨p, H', a, b, c, d⟩ => ⟨p, H', a, b, c, k _ _ d⟩) fun _ _ f => f

structure retQ (Q : PV → AH → Prop) (fl : Fl) (m : Loc) (H' : AH) : Prop where
  q : match fl with
  | .ret p => Q p H'
  | .next => Q .none H'
  | _ => False

section
variable {C : Ctx} {n : Nat} {H : AH} {mg mb : PySem.Str → Option Value}

theorem code_fn (G : Good C mg mb) {f : Addr} {fd : FuncData} {ps : List PySem.Str} {body : List PySem.Stmt} {args : List PV} {Q : PV → AH → Prop} (hf : C.Fn f = some fd) (hbody : fd.body = .stmts body) (hlen : args.length = ps.length)
    (hbind : ∀ vs : List Value, vs.length = ps.length → bindArgs fd ⟨vs, []⟩ = pure (ps.zip vs)) (hps : ∀ x ∈ ps, stOk fd.scope x)
    (hco : fd.scope.isCoroutine = false) (hgen : fd.scope.isGenerator = false) (hk : fd.scope.kind = .function)
    (h : awSs C n body fd.scope (bindLoc ps args fun _ => none) H (retQ Q)) : ∀ (A : Around) (s : Shared) (vs : List Value), Room A (n + 1) → St C H s → VRels s.heap args vs → codeAny (model C.prog C.w) A (.call (.ref f) ⟨vs, []⟩) (fun r s' => match r with | .ok (.ret v) => PostE C H s Q v s' | _ => False) s := by
  intro A s vs R S r
  obtain ⟨g1, g2, g3, g4, g5⟩ := G.fn f fd hf
  have ho : s.heap.get? f = some { cls := .type "function", data := .func fd } := S.keep _ _ g1
  have hcd : s.heap.CodeRec fd.code fd.qualname := g2.keeps S.keep
  have hbd := hbind vs (by rw [← r.length, hlen])
  have keepL : ∀ a, s.heap.objs.size ≤ a → s.heap.get? a = none ∧ H a = none ∧ C.hb.get? a = none := fun a ha => by
    have h0 : s.heap.get? a = none := Heap.get?_none_of_le ha
    refine ⟨h0, ?_, S.hb_none h0⟩
    cases e : H a with
    | none => rfl
    | some o => exact absurd (Nat.lt_of_lt_of_le (S.lt e) ha) (Nat.lt_irrefl _)
  refine codeAny_call_cells (by have := R.dp; omega) ho rfl (G.nolimit.keeps S.keep) hcd hbody hbd g5 (fun x hx => ?_) (fun s₁ X => ?_) hco hgen hk
  · have hx' := List.of_mem_zip (show (x.1, x.2) ∈ ps.zip vs from hx)
    rcases hps x.1 hx'.1 with e | e
    · exact .inl e
    · exact .inr ⟨e, cellsFrom_has _ _ _ _ (.inl (mem_of_lookup e))⟩
  · obtain ⟨h₁, tk, rfl⟩ := X.toInCall.same
    generalize hE : callEnvC fd s.heap.objs.size f = env at X ⊢
    have eS : env.scope = fd.scope := by rw [← hE]; rfl
    have eL : env.locals = s.heap.objs.size := by rw [← hE]; rfl
    have keep : ∀ b o, s.heap.get? b = some o → h₁.get? b = some o := X.toInCall.keep
    have T1 : Stp NoW H s.heap H h₁ := Stp.of_keeps keep
    have S1 : St C H { s with heap := h₁, toks := tk } := S.keeps keep
    have hkk : ∀ x, env.kindOf x = fd.scope.names.lookup x := fun x => by rw [← hE]; rfl
    have cellOf : ∀ x, fd.scope.names.lookup x = some .cell → ∃ c, env.cells.lookup x = some c := fun x e => by
      have := cellsFrom_has fd.scope.names (s.heap.objs.size + 1) [] x (.inl (mem_of_lookup e))
      obtain ⟨c, hc⟩ := Option.isSome_iff_exists.mp this
      exact ⟨c, by rw [← hE]; exact hc⟩
    have B := bind_rel (kindOf := env.kindOf) (m := fun _ => none) (ml := fun _ => none) (mc := fun _ => none) (r.mono T1.imm) (fun x hx => by rw [hkk]; exact hps x hx) ⟨fun _ _ e => (nomatch e), fun _ _ e => (nomatch e), fun _ _ e => (nomatch e)⟩
    have F : FRel C env H h₁ (bindLoc ps args fun _ => none) := by
      refine ⟨by rw [eS]; exact hk, by rw [← hE]; exact g3, by rw [← hE]; exact g4, ?_, ?_, ⟨_, X.toInCall.ns, fun x p e k => B.loc x p e k⟩, fun x p e => ?_, fun x c e => ?_, fun x y c e1 e2 => name_of_addr X.apart (mem_of_lookup e1) (mem_of_lookup e2), fun x k => cellOf x (by rw [← hkk]; exact k)⟩
      · rw [eL]; exact (keepL _ (Nat.le_refl _)).2.2
      · rw [eL]; exact (keepL _ (Nat.le_refl _)).2.1
      · rcases B.kinds x p e with k | k
        · exact .inl k
        · obtain ⟨c, hc⟩ := cellOf x (by rw [← hkk]; exact k)
          obtain ⟨v, hv, rv⟩ := B.cel x p e k
          exact .inr ⟨.inl k, c, v, hc, by rw [← hv]; exact X.cell x c hc, rv⟩
      · have hlt := X.above x c (mem_of_lookup e)
        rw [eL] at hlt
        have := keepL c (Nat.le_of_lt hlt)
        exact ⟨this.2.1, this.2.2, by rw [eL]; exact Nat.ne_of_gt hlt, _, X.cell x c e⟩
    have hW : ∀ a, (s.heap.get? a).isSome = true → ¬ WE env a := fun a e w => by
      have lt : ∀ b, s.heap.objs.size ≤ b → a ≠ b := fun b hb q => by subst q; rw [(keepL a hb).1] at e; cases e
      rcases w with w | ⟨x, hx⟩
      · exact lt _ (by rw [← eL]; exact Nat.le_refl _) w
      · have hlt := X.above x a (mem_of_lookup hx)
        rw [eL] at hlt
        exact lt a (Nat.le_of_lt hlt) rfl
    have hR : Room (A.deeper env) n := ⟨R.hd, by have := R.dp; show A.depth + 1 + n < recursionLimit; omega, by have := R.un; show A.units + 3 + 10 * n + 100 < cLine; omega⟩
    refine wpAny_mono (body_sound (C := C) (n := n) (A := A.deeper env) (env := env) (m := bindLoc ps args fun _ => none) (H := H) (s := { s with heap := h₁, toks := tk }) (Q := retQ Q) G ⟨hR, S1, F, ScOk.refl env⟩ (by rw [eS]; exact h)) (fun fl s' ⟨f', m', H', rf, S', T', F', q⟩ => ?_) fun _ _ f => f.elim
    have T2 : Stp NoW H s.heap H' s'.heap := (T1.all.trans T').narrow hW
    cases f' with
    | next => cases rf; exact ⟨.none, H', by simp only [VRel], S', T2, q.q⟩
    | ret p => obtain ⟨v, rfl, rv⟩ := rf; exact ⟨p, H', rv, S', T2, q.q⟩
    | brk => exact q.q.elim
    | cont => exact q.q.elim
end
end
section
open PySem PySem.W PySem.Calls PyProof.Rows
open scoped Classical

/-- the same for the code of a call -/
noncomputable def CodeP (C : Ctx) (n : Nat) (f : Value) (args : List PV) (H : AH) (Q : PV → AH → Prop) : Prop :=
  ∀ (A : Around) (s : Shared) (vs : List Value), Room A n → St C H s → VRels s.heap args vs → codeAny (model C.prog C.w) A (.call f ⟨vs, []⟩) (fun r s' => match r with | .ok (.ret v) => PostE C H s Q v s' | _ => False) s

theorem CodeP.callP {C : Ctx} {n : Nat} {f : Value} {args : List PV} {H : AH} {Q : PV → AH → Prop} (h : CodeP C n f args H Q) : CallP C n f args H Q :=
  fun A s vs R S r => wpAny_call (codeAny_mono (h A s vs R S r) fun r s' hr => by
    rcases r with e | (v | _ | _ | _) <;> first | exact hr | exact hr.elim)
theorem CodeP.mono {C : Ctx} {n n' : Nat} {f : Value} {args : List PV} {H : AH} {Q : PV → AH → Prop} (h : CodeP C n f args H Q) (hn : n ≤ n') : CodeP C n' f args H Q :=
  fun A s vs R S r => h A s vs ⟨R.hd, by have := R.dp; omega, by have := R.un; omega⟩ S r

section
variable {C : Ctx} {n : Nat} {H : AH} {mg mb : PySem.Str → Option Value}

theorem callP_make (G : Good C mg mb) {fI : Addr} {Q : PV → AH → Prop} (hm : C.meth "__init__" = some fI)
    (h : ∀ d x, H d = none → H x = none → d ≠ x → CodeP C n (.ref fI) [.val (.ref x)] ((H.set d (.ns (fun _ => none) 0)).set x (.inst C.KT d)) (fun p H' => p = .none ∧ Q (.val (.ref x)) H')) : CallP C (n + 1) (.ref C.KT) [] H Q := by
  intro A s vs R S r
  simp only [VRels] at r; subst r
  have X : C.K.In s.heap := G.X.keeps S.keep
  obtain ⟨k1, k2, k3, k4, k5, k6⟩ := G.kcls
  obtain ⟨g1, g2⟩ := G.kmeth _ _ hm
  refine wpAny_call ?_
  have hd : H s.heap.objs.size = none := S.fresh
  have sz : (s.heap.push emptyDict).objs.size = s.heap.objs.size + 1 := Heap.size_push ..
  obtain ⟨S1, T1⟩ := S.alloc (t := s.toks) (h' := s.heap.push emptyDict) (a := s.heap.objs.size) (o := .ns (fun _ => none) 0) (push_keeps _) (Heap.get?_none_of_le (Nat.le_refl _)) (S.not_mods G.nolimit (Nat.le_refl _))
    ⟨[], 0, Heap.get?_push_size _ rfl, Nat.le_refl _, fun _ e => (nomatch e), fun _ => rfl⟩
  obtain ⟨S2, T2⟩ := S1.alloc (t := s.toks) (h' := (s.heap.push emptyDict).push (instObj C.KT s.heap.objs.size)) (a := s.heap.objs.size + 1) (o := .inst C.KT s.heap.objs.size) (push_keeps _) (Heap.get?_none_of_le (by show (s.heap.push emptyDict).objs.size ≤ _; rw [sz]; exact Nat.le_refl _)) (S.not_mods G.nolimit (Nat.le_succ _))
    ⟨#[], by rw [← sz]; exact Heap.get?_push_size _ rfl⟩
  have hx : H (s.heap.objs.size + 1) = none := by
    cases e : H (s.heap.objs.size + 1) with
    | none => rfl
    | some o => have := S.lt e; exact absurd (Nat.lt_of_succ_lt this) (Nat.lt_irrefl _)
  have hne : s.heap.objs.size ≠ s.heap.objs.size + 1 := Nat.ne_of_lt (Nat.lt_succ_self _)
  have hc := h _ _ hd hx hne (A.under (.builtin "type.__call__" ⟨[.ref C.KT], []⟩)) { s with heap := (s.heap.push emptyDict).push (instObj C.KT s.heap.objs.size) } [.ref (s.heap.objs.size + 1)]
    (by
      have e1 : (A.under (.builtin "type.__call__" ⟨[.ref C.KT], []⟩)).depth = A.depth + 1 := rfl
      have e2 : (A.under (.builtin "type.__call__" ⟨[.ref C.KT], []⟩)).units = A.units + 1 := rfl
      exact ⟨R.hd, by have := R.dp; rw [e1]; omega, by have := R.un; rw [e2]; omega⟩) S2
    (VRels.cons (by simp only [VRel]) VRels.nil)
  refine make_core (h := s.heap) (g := s.gens) (d := s.drawn) (t := s.toks) (os := s.os) (rest := []) (kw := []) (makes_of X k3) (looks_findIn X g1) (fun self => bind_fn X self (beq_iff_eq.mp g2)) (.inl rfl) (codeAny_mono hc fun r s' hr => ?_)
  rcases r with e | (v | _ | _ | _) <;> first | exact hr.elim | skip
  obtain ⟨p, H', rv, S', T', rfl, q⟩ := hr
  simp only [VRel] at rv
  exact ⟨rv, .val (.ref (s.heap.objs.size + 1)), H', by simp only [VRel], S', (T1.trans T2).trans T', q⟩
end
end
section
open PySem PySem.W PySem.Calls PyProof.Rows
open scoped Classical

theorem charNat_inj {a b : Char} (h : a.toNat = b.toNat) : a = b := by
  apply Char.ext
  exact UInt32.toNat_inj.mp h
theorem ofString_inj {a b : String} (h : Str.ofString a = Str.ofString b) : a = b := by
  rw [Str.ofString_eq_toList, Str.ofString_eq_toList] at h
  have h1 : a.toList.map Char.toNat = b.toList.map Char.toNat := by
    have := congrArg (fun s => s.cps.toList) h
    simpa using this
  have h2 : a.toList = b.toList := (List.map_inj_right (fun x y e => charNat_inj e)).mp h1
  exact String.toList_inj.mp h2
theorem str_eq (a b : String) : (Str.ofString a = Str.ofString b) = (a = b) := propext ⟨ofString_inj, fun e => by rw [e]⟩

noncomputable def L (l : List (String × PV)) : Loc := fun y => (l.find? fun e => decide (y = Str.ofString e.1)).map (·.2)
theorem L_nil (y : PySem.Str) : L [] y = none := rfl
theorem L_cons' (a : String) (p : PV) (r : List (String × PV)) (y : PySem.Str) : L ((a, p) :: r) y = if y = Str.ofString a then some p else L r y := by
  unfold L
  rw [List.find?_cons]
  by_cases h : y = Str.ofString a
  · rw [if_pos h]; simp [h]
  · rw [if_neg h]; simp [h]
theorem L_cons (a : String) (p : PV) (r : List (String × PV)) (b : String) : L ((a, p) :: r) (Str.ofString b) = if b = a then some p else L r (Str.ofString b) := by
  rw [L_cons']
  by_cases h : b = a
  · rw [if_pos h, if_pos (by rw [h])]
  · rw [if_neg h, if_neg (fun e => h (ofString_inj e))]
noncomputable def upd : List (String × PV) → String → PV → List (String × PV)
  | [], x, p => [(x, p)]
  | (a, q) :: r, x, p => cond (a == x) ((a, p) :: r) ((a, q) :: upd r x p)
theorem upd_hit (a : String) (q p : PV) (r : List (String × PV)) : upd ((a, q) :: r) a p = (a, p) :: r := by
  unfold upd; rw [beq_self_eq_true]; rfl
theorem upd_miss {a x : String} (h : ¬ a = x) (q p : PV) (r : List (String × PV)) : upd ((a, q) :: r) x p = (a, q) :: upd r x p := by
  rw [upd, show (a == x) = false from beq_eq_false_iff_ne.mpr h]; rfl
theorem L_set (l : List (String × PV)) (x : String) (p : PV) : (L l).set (Str.ofString x) p = L (upd l x p) := by
  funext y
  unfold Loc.set
  induction l with
  | nil => unfold upd; rw [L_cons', L_nil]
  | cons e r ih =>
    obtain ⟨a, q⟩ := e
    by_cases h : a = x
    · subst h
      rw [upd_hit, L_cons', L_cons']
      by_cases hy : y = Str.ofString a
      · rw [if_pos hy, if_pos hy]
      · rw [if_neg hy, if_neg hy, if_neg hy]
    · rw [upd_miss h, L_cons', L_cons', ← ih]
      by_cases hy : y = Str.ofString x
      · rw [if_pos hy]
        rw [if_neg (fun e => h (ofString_inj (e.symm.trans hy))), if_pos hy]
      · rw [if_neg hy, if_neg hy]
/-- a name's value, by the texts of the names -/
noncomputable def lkS : List (String × PV) → String → Option PV
  | [], _ => none
  | (a, p) :: r, x => cond (x == a) (some p) (lkS r x)
theorem L_lkS : ∀ (l : List (String × PV)) (x : String), L l (Str.ofString x) = lkS l x
  | [], _ => rfl
  | (a, p) :: r, x => by
    rw [L_cons, lkS]
    by_cases h : x = a
    · subst h; rw [if_pos rfl, beq_self_eq_true]; rfl
    · rw [if_neg h, show (x == a) = false from beq_eq_false_iff_ne.mpr h, L_lkS r x]; rfl

theorem bindLoc_L : ∀ (ps : List String) (as : List PV) (l : List (String × PV)), bindLoc (ps.map Str.ofString) as (L l) = L ((ps.zip as).foldl (fun l e => upd l e.1 e.2) l)
  | [], _, _ => rfl
  | _ :: _, [], _ => rfl
  | p :: ps, a :: as, l => by
    rw [List.map_cons, bindLoc, L_set, bindLoc_L ps as]; rfl
theorem bindLoc_nil (ps : List PySem.Str) (as : List PV) : bindLoc ps as (fun _ => none) = bindLoc ps as (L []) := rfl

/-- the names of a comprehension, as a list -/
noncomputable def freeL (sc : Scope) (l : List (String × PV)) : List (String × PV) := l.filter fun e => sc.names.lookup (Str.ofString e.1) = some .free
theorem compLoc_L (sc : Scope) (l : List (String × PV)) (x : String) (p : PV) : compLoc sc (L l) (Str.ofString x) p = L ((x, p) :: freeL sc l) := by
  funext y
  unfold compLoc
  rw [L_cons']
  by_cases hy : y = Str.ofString x
  · rw [if_pos hy, if_pos hy]
  · rw [if_neg hy, if_neg hy]
    induction l with
    | nil => rw [L_nil]; unfold freeL; rw [List.filter_nil, L_nil]; split <;> rfl
    | cons e r ih =>
      obtain ⟨a, q⟩ := e
      rw [L_cons']
      unfold freeL at ih ⊢
      by_cases hf : sc.names.lookup (Str.ofString a) = some .free
      · rw [List.filter_cons_of_pos (by simpa using hf), L_cons', ← ih]
        by_cases ha : y = Str.ofString a
        · subst ha; rw [if_pos hf, if_pos rfl, if_pos rfl]
        · rw [if_neg ha, if_neg ha]
      · rw [List.filter_cons_of_neg (by simpa using hf), ← ih]
        by_cases ha : y = Str.ofString a
        · subst ha; rw [if_neg hf, if_neg hf]
        · rw [if_neg ha]

section
variable {C : Ctx} {n : Nat} {sc : Scope} {m : Loc} {H : AH} {l : List (String × PV)}

section
variable {Q : PV → AH → Prop}
theorem sp_ite {c : Bool} {X Y : Prop} : ((c = true → X) ∧ (c = false → Y)) = if c = true then X else Y := by
  cases c <;> simp
theorem iInt {i : Int} {k pos} (q : Q (.int i) H) : awE C n (.Constant (.int i) k pos) sc m H Q := awConst.int q
theorem iStr {x : PySem.Str} {k pos} (q : Q (.str x) H) : awE C n (.Constant (.str x) k pos) sc m H Q := awConst.str q
theorem iBoo {b : Bool} {k pos} (q : Q (.bool b) H) : awE C n (.Constant (.bool b) k pos) sc m H Q := awConst.bool q
theorem iNon {k pos} (q : Q .none H) : awE C n (.Constant .none k pos) sc m H Q := awConst.none q
theorem nodebug {x : String} (h : (x = "__debug__") = False) : (Str.ofString x == ("__debug__" : PySem.Str)) = false := by
  rw [beq_eq_false_iff_ne]
  exact fun e => h ▸ ofString_inj e
theorem iNL {x : String} {pos} {p : PV} (hm : L l (Str.ofString x) = some p) (hd : (x = "__debug__") = False) (q : Q p H) : awE C n (.Name (Str.ofString x) pos) sc (L l) H Q := by
  show _ ∧ _
  refine ⟨nodebug hd, ?_⟩
  unfold awName
  rw [hm]; exact q
theorem iNG {x : String} {pos} {p : PV} (hm : L l (Str.ofString x) = none) (hs : sc.names.lookup (Str.ofString x) = some .globalImplicit) (hg : C.Gl (Str.ofString x) = some p) (hd : (x = "__debug__") = False) (q : Q p H) :
    awE C n (.Name (Str.ofString x) pos) sc (L l) H Q := by
  show _ ∧ _
  refine ⟨nodebug hd, ?_⟩
  unfold awName
  rw [hm]; exact ⟨hs, p, hg, q⟩
theorem iBin {a b : PySem.Expr} {op pos} (q : awE C n a sc m H fun x H1 => awE C n b sc m H1 fun y H2 => awBin op x y H2 Q) : awE C n (.BinOp a op b pos) sc m H Q := q
theorem iNeg {i : Int} {k pos pos2} (q : Q (.int (-i)) H) : awE C n (.UnaryOp .USub (.Constant (.int i) k pos) pos2) sc m H Q := awConst.int (awUn.neg q)
theorem iIf {t b o : PySem.Expr} {pos} (q : awT C n t sc m H fun c H1 => (c = true → awE C n b sc m H1 Q) ∧ (c = false → awE C n o sc m H1 Q)) : awE C n (.IfExp t b o pos) sc m H Q := by
  show awT C n t sc m H _
  refine Eq.mp (congrArg (awT C n t sc m H) ?_) q
  funext c H1; exact sp_ite
theorem iCmp {a b : PySem.Expr} {op pos} (hm : behindInMarks op b = false) (q : awE C n a sc m H fun x H1 => awE C n b sc m H1 fun y H2 => awCmp C op x y H2 Q) : awE C n (.Compare a [op] [b] pos) sc m H Q := by show _ ∧ _; exact ⟨hm, q⟩
theorem iTup {es : List PySem.Expr} {k pos} (q : awEs C n es sc m H fun vs H1 => vs.length ≤ 1000 ∧ Q (.tup vs) H1) : awE C n (.Tuple es k pos) sc m H Q := q
theorem iLst {es : List PySem.Expr} {pos} (q : awEs C n es sc m H fun vs H1 => vs.length ≤ 1000 ∧ ∀ c, H1 c = none → Q (.val (.ref c)) (H1.set c (.list vs))) : awE C n (.List es pos) sc m H Q := q
theorem iDic {ks : List (Option PySem.Expr)} {vs : List PySem.Expr} {pos} (q : awDict ks vs H Q) : awE C n (.Dict ks vs pos) sc m H Q := q
theorem iAtt {o : PySem.Expr} {x pos} (hb : baseOk o = true) (q : awE C n o sc m H fun ov H1 => awAttr C ov x H1 Q) : awE C n (.Attribute o x pos) sc m H Q := by show _ ∧ _; exact ⟨hb, q⟩
theorem iSub {v i : PySem.Expr} {pos} (hi : isSlice i = false) (q : awE C n v sc m H fun o H1 => awE C n i sc m H1 fun k H2 => awItem C o k H2 Q) : awE C n (.Subscript v i pos) sc m H Q := by rw [awE_Subscript hi]; exact q
theorem iSli {v : PySem.Expr} {lo hi st : Option PySem.Expr} {p pos} (q : awE C n v sc m H fun o H1 => awO C n lo sc m H1 fun l H2 => awO C n hi sc m H2 fun u H3 => awO C n st sc m H3 fun t H4 => awSlice C o l u t H4 Q) :
    awE C n (.Subscript v (.Slice lo hi st p) pos) sc m H Q := q
theorem iMet {o : PySem.Expr} {x apos pos} {as : List PySem.Expr} (h : (baseOk o && decide (apos.endLine = pos.line) && decide (as.length < 30) && noStar as) = true)
    (q : awE C n o sc m H fun ov H1 => awGetM C x ov H1 fun mid => awEs C n as sc m H1 fun vs H2 => awRunM C n mid vs H2 Q) : awE C n (.Call (.Attribute o x apos) as [] pos) sc m H Q := by
  simp only [Bool.and_eq_true, decide_eq_true_eq] at h
  show _ ∧ _; exact ⟨h.1.1.1, h.1.1.2, h.1.2, h.2, q⟩
theorem iCal {f : PySem.Expr} {as : List PySem.Expr} {pos} (h : (!isAttr f && noStar as) = true) (q : awE C n f sc m H fun fv H1 => awCallee C fv ∧ awEs C n as sc m H1 fun vs H2 => awCall C n fv vs H2 Q) : awE C n (.Call f as [] pos) sc m H Q := by
  simp only [Bool.and_eq_true, Bool.not_eq_true'] at h
  rw [awE_Call h.1]; exact ⟨h.1, h.2, q⟩
theorem iCom {elt iter : PySem.Expr} {x : String} {px pos} {scope : Scope} (h : (compOk scope sc (Str.ofString x) && !isSet iter) = true)
    (q : awE C n iter sc (L l) H fun iv H1 => awIter iv H1 fun chk items => items.length ≤ 1000 ∧
        awComp (fun p H2 k => awE C n elt scope (L ((x, p) :: freeL scope l)) H2 k) chk items H1 [] fun vs H3 => ∀ c, H3 c = none → Q (.val (.ref c)) (H3.set c (.list vs))) :
    awE C n (.ListComp elt [⟨.Name (Str.ofString x) px, iter, [], 0⟩] scope pos) sc (L l) H Q := by
  simp only [Bool.and_eq_true, Bool.not_eq_true'] at h
  show _ ∧ _
  refine ⟨h.1, h.2, ?_⟩
  simp only [compLoc_L]
  exact q
theorem iBop {op : BoolOp} {es : List PySem.Expr} {pos} (q : awB C n op es sc m H Q) : awE C n (.BoolOp op es pos) sc m H Q := q
theorem bb1 {op : BoolOp} {e : PySem.Expr} (q : awE C n e sc m H Q) : awB C n op [e] sc m H Q := q
theorem bbO {e e' : PySem.Expr} {r : List PySem.Expr} (q : awE C n e sc m H fun v H1 => awTruth v fun b => (b = true → Q v H1) ∧ (b = false → awB C n .Or (e' :: r) sc m H1 Q)) : awB C n .Or (e :: e' :: r) sc m H Q := by
  show awE C n e sc m H _
  refine Eq.mp (congrArg (awE C n e sc m H) ?_) q
  funext v H1
  dsimp only
  refine congrArg (awTruth v) ?_
  funext b; cases b <;> simp
theorem bbA {e e' : PySem.Expr} {r : List PySem.Expr} (q : awE C n e sc m H fun v H1 => awTruth v fun b => (b = true → awB C n .And (e' :: r) sc m H1 Q) ∧ (b = false → Q v H1)) : awB C n .And (e :: e' :: r) sc m H Q := by
  show awE C n e sc m H _
  refine Eq.mp (congrArg (awE C n e sc m H) ?_) q
  funext v H1
  dsimp only
  refine congrArg (awTruth v) ?_
  funext b; cases b <;> simp
theorem iAnd1 {e : PySem.Expr} {pos} (q : awE C n e sc m H Q) : awE C n (.BoolOp .And [e] pos) sc m H Q := q
end

section
variable {Q : Bool → AH → Prop}
theorem tNot {x : PySem.Expr} {pos} (q : awT C n x sc m H fun b H1 => Q (!b) H1) : awT C n (.UnaryOp .Not x pos) sc m H Q := q
theorem tBop {op : BoolOp} {es : List PySem.Expr} {pos} (q : awTs C n op es sc m H Q) : awT C n (.BoolOp op es pos) sc m H Q := q
theorem tCmp {a b : PySem.Expr} {op pos} (hm : behindInMarks op b = false) (q : awE C n a sc m H fun x H1 => awE C n b sc m H1 fun y H2 => awCmp C op x y H2 fun v H3 => awTruth v fun b => Q b H3) : awT C n (.Compare a [op] [b] pos) sc m H Q := by show _ ∧ _; exact ⟨hm, q⟩
theorem tCal {f : PySem.Expr} {as : List PySem.Expr} {pos} (h : (!isAttr f && noStar as) = true) (q : awE C n f sc m H fun fv H1 => awCallee C fv ∧ awEs C n as sc m H1 fun vs H2 => awCall C n fv vs H2 fun v H3 => awTruth v fun b => Q b H3) : awT C n (.Call f as [] pos) sc m H Q := by
  simp only [Bool.and_eq_true, Bool.not_eq_true'] at h
  show _ ∧ _; exact ⟨h.1, h.2, q⟩
theorem tsA0 (q : Q true H) : awTs C n .And [] sc m H Q := q
theorem tsO0 (q : Q false H) : awTs C n .Or [] sc m H Q := q
theorem tsA {e : PySem.Expr} {r : List PySem.Expr} (q : awT C n e sc m H fun b H1 => (b = true → awTs C n .And r sc m H1 Q) ∧ (b = false → Q false H1)) : awTs C n .And (e :: r) sc m H Q := by
  show awT C n e sc m H _
  refine Eq.mp (congrArg (awT C n e sc m H) ?_) q
  funext c H1; cases c <;> simp
theorem tsO {e : PySem.Expr} {r : List PySem.Expr} (q : awT C n e sc m H fun b H1 => (b = true → Q true H1) ∧ (b = false → awTs C n .Or r sc m H1 Q)) : awTs C n .Or (e :: r) sc m H Q := by
  show awT C n e sc m H _
  refine Eq.mp (congrArg (awT C n e sc m H) ?_) q
  funext c H1; cases c <;> simp
theorem trB {b : Bool} {k : Bool → Prop} (q : k b) : awTruth (.bool b) k := q
end
theorem spD {P : Prop} [Decidable P] {X Y : Prop} (h1 : P → X) (h2 : ¬ P → Y) : (decide P = true → X) ∧ (decide P = false → Y) := ⟨fun h => h1 (of_decide_eq_true h), fun h => h2 (of_decide_eq_false h)⟩
theorem spN {P : Prop} [Decidable P] {X Y : Prop} (h1 : ¬ P → X) (h2 : P → Y) : ((!decide P) = true → X) ∧ ((!decide P) = false → Y) := ⟨fun h => h1 (by simpa using h), fun h => h2 (by simpa using h)⟩
theorem spT {X Y : Prop} (h : X) : (true = true → X) ∧ (true = false → Y) := ⟨fun _ => h, fun e => nomatch e⟩
theorem spF {X Y : Prop} (h : Y) : (false = true → X) ∧ (false = false → Y) := ⟨fun e => (nomatch e), fun _ => h⟩
theorem spB {b : Bool} {X Y : Prop} (h1 : b = true → X) (h2 : b = false → Y) : (b = true → X) ∧ (b = false → Y) := ⟨h1, h2⟩

section
variable {Q : List PV → AH → Prop}
theorem es0 (q : Q [] H) : awEs C n [] sc m H Q := q
theorem esC {e : PySem.Expr} {r : List PySem.Expr} (h : isStar e = false) (q : awE C n e sc m H fun v H1 => awEs C n r sc m H1 fun vs H2 => Q (v :: vs) H2) : awEs C n (e :: r) sc m H Q := by show _ ∧ _; exact ⟨h, q⟩
end
theorem o0 {Q : PV → AH → Prop} (q : Q .none H) : awO C n none sc m H Q := q
theorem oS {Q : PV → AH → Prop} {e : PySem.Expr} (q : awE C n e sc m H Q) : awO C n (some e) sc m H Q := q

section
variable {Q : Fl → Loc → AH → Prop}
theorem sExp {v : PySem.Expr} {pos} (h : isComp v = false) (q : awE C n v sc m H fun _ H1 => Q .next m H1) : awS C n (.Expr v pos) sc m H Q := by show _ ∧ _; exact ⟨h, q⟩
theorem sRet0 {pos} (q : Q (.ret .none) m H) : awS C n (.Return none pos) sc m H Q := q
theorem sRet {e : PySem.Expr} {pos} (q : awE C n e sc m H fun p H1 => Q (.ret p) m H1) : awS C n (.Return (some e) pos) sc m H Q := q
noncomputable def stOkB (sc : Scope) (x : PySem.Str) : Bool := decide (sc.names.lookup x = some .local) || decide (sc.names.lookup x = some .cell)
theorem stOkB_iff {sc : Scope} {x : PySem.Str} (h : stOkB sc x = true) : stOk sc x := by
  unfold stOkB at h
  simp only [Bool.or_eq_true, decide_eq_true_eq] at h
  exact h
/-- a name set -/
theorem sSet {x : String} {xp pos} {v : PySem.Expr} (h : (stOkB sc (Str.ofString x) && !isComp v) = true)
    (q : awE C n v sc (L l) H fun p H1 => Q .next (L (upd l x p)) H1) : awS C n (.Assign [.Name (Str.ofString x) xp] v pos) sc (L l) H Q := by
  simp only [Bool.and_eq_true, Bool.not_eq_true'] at h
  rw [awS_Assign h.2]
  refine ⟨h.2, rfl, ?_⟩
  refine Eq.mp (congrArg (awE C n v sc (L l) H) ?_) q
  funext p H1
  rw [awA_name, L_set]
  exact propext ⟨fun z => ⟨stOkB_iff h.1, z⟩, fun z => z.2⟩
/-- a name set to a comprehension -/
theorem sSetC {x : String} {xp pos cp} {elt : PySem.Expr} {gens : List Comprehension} {scope : Scope}
    (h : (decide (sc.names.lookup (Str.ofString x) = some .local) && decide (xp.line = cp.line) && !(scope.names.any fun (n, k) => n == Str.ofString x && (k == .local || k == .cell))) = true)
    (q : awE C n (.ListComp elt gens scope cp) sc (L l) H fun p H1 => Q .next (L (upd l x p)) H1) : awS C n (.Assign [.Name (Str.ofString x) xp] (.ListComp elt gens scope cp) pos) sc (L l) H Q := by
  simp only [Bool.and_eq_true, Bool.not_eq_true', decide_eq_true_eq] at h
  show _ ∧ _
  refine ⟨⟨.inl h.1.1, h.1.1, h.1.2, h.2⟩, ?_⟩
  refine Eq.mp (congrArg (awE C n _ sc (L l) H) ?_) q
  funext p H1
  rw [L_set]
theorem sSetT {t v : PySem.Expr} {pos} (h : (!isComp v && !isTupList t) = true) (q : awE C n v sc m H fun p H1 => awA C n t p sc m H1 fun m' H2 => Q .next m' H2) : awS C n (.Assign [t] v pos) sc m H Q := by
  simp only [Bool.and_eq_true, Bool.not_eq_true'] at h
  rw [awS_Assign h.1]
  exact ⟨h.1, h.2, q⟩
theorem sAug {x : String} {xp pos} {v : PySem.Expr} {old : Int} (h : stOkB sc (Str.ofString x) = true) (hm : L l (Str.ofString x) = some (.int old))
    (q : awE C n v sc (L l) H fun p H1 => ∃ j, p = .int j ∧ Q .next (L (upd l x (.int (old + j)))) H1) : awS C n (.AugAssign (.Name (Str.ofString x) xp) .Add v pos) sc (L l) H Q := by
  show _ ∧ _
  refine ⟨stOkB_iff h, old, hm, ?_⟩
  refine Eq.mp (congrArg (awE C n v sc (L l) H) ?_) q
  funext p H1
  simp only [L_set]
theorem sIf {t : PySem.Expr} {b o : List PySem.Stmt} {pos} (q : awT C n t sc m H fun c H1 => (c = true → awSs C n b sc m H1 Q) ∧ (c = false → awSs C n o sc m H1 Q)) : awS C n (.If t b o pos) sc m H Q := by
  show awT C n t sc m H _
  refine Eq.mp (congrArg (awT C n t sc m H) ?_) q
  funext c H1; exact sp_ite
structure whQ (I : Nat → Loc → AH → Prop) (Q : Fl → Loc → AH → Prop) (k : Nat) (fl : Fl) (m3 : Loc) (H3 : AH) : Prop where
  q : match fl with
        | .next | .cont => ∃ j, j < k ∧ I j m3 H3
        | .brk => Q .next m3 H3
        | .ret p => Q (.ret p) m3 H3
theorem whN {I : Nat → Loc → AH → Prop} {k : Nat} (j : Nat) (h : j < k) (q : I j m H) : whQ I Q k .next m H := ⟨j, h, q⟩
theorem sWhi {t : PySem.Expr} {b : List PySem.Stmt} {pos} (I : Nat → Loc → AH → Prop) (k : Nat) (h0 : I k m H)
    (step : ∀ k m1 H1, I k m1 H1 → awT C n t sc m1 H1 fun c H2 => (c = true → awSs C n b sc m1 H2 (whQ I Q k)) ∧ (c = false → Q .next m1 H2)) : awS C n (.While t b [] pos) sc m H Q := by
  show ∃ _, _
  refine ⟨I, ⟨k, h0⟩, fun k m1 H1 hI => Eq.mp (congrArg (awT C n t sc m1 H1) ?_) (step k m1 H1 hI)⟩
  funext c H1
  rw [sp_ite]
  cases c with
  | false => rfl
  | true =>
    rw [if_pos rfl, if_pos rfl]
    refine congrArg (awSs C n b sc m1 H1) ?_
    funext fl m3 H3
    refine propext ⟨fun h => ?_, fun h => ⟨?_⟩⟩
    · have := h.q; cases fl <;> exact this
    · cases fl <;> exact h
theorem sFor {t it : PySem.Expr} {b : List PySem.Stmt} {pos} (h : (!isSet it && isNameOrTup t) = true) (q : awE C n it sc m H fun iv H1 => awIter iv H1 fun chk items =>
      awLoop (fun m1 H2 k => awSs C n b sc m1 H2 k) (fun p m1 H2 k => awA C n t p sc m1 H2 k) chk items m H1 Q) : awS C n (.For t it b [] pos) sc m H Q := by
  simp only [Bool.and_eq_true, Bool.not_eq_true'] at h
  show _ ∧ _; exact ⟨h.1, h.2, q⟩
structure seqQ (C : Ctx) (n : Nat) (r : List PySem.Stmt) (sc : Scope) (Q : Fl → Loc → AH → Prop) (fl : Fl) (m1 : Loc) (H1 : AH) : Prop where
  q : match fl with
    | .next => awSs C n r sc m1 H1 Q
    | fl => Q fl m1 H1
theorem seqN {r : List PySem.Stmt} {l' : List (String × PV)} (hu : l = l') (q : awSs C n r sc (L l') H Q) : seqQ C n r sc Q .next (L l) H := by subst hu; exact ⟨q⟩
theorem seqR {r : List PySem.Stmt} {p : PV} (q : Q (.ret p) m H) : seqQ C n r sc Q (.ret p) m H := ⟨q⟩
theorem rqR {Q : PV → AH → Prop} {p : PV} (q : Q p H) : retQ Q (.ret p) m H := ⟨q⟩
theorem rqN {Q : PV → AH → Prop} (q : Q .none H) : retQ Q .next m H := ⟨q⟩
theorem ss0 (q : Q .next m H) : awSs C n [] sc m H Q := q
theorem ssC {s : PySem.Stmt} {r : List PySem.Stmt} (q : awS C n s sc m H (seqQ C n r sc Q)) : awSs C n (s :: r) sc m H Q := by
  show awS C n s sc m H _
  refine Eq.mp (congrArg (awS C n s sc m H) ?_) q
  funext fl m1 H1
  exact propext ⟨fun h => h.q, fun h => ⟨h⟩⟩
end

section
variable {k : Loc → AH → Prop} {p : PV}
theorem aName {x : String} {xp} {l' : List (String × PV)} (h : stOkB sc (Str.ofString x) = true) (hu : upd l x p = l') (q : k (L l') H) : awA C n (.Name (Str.ofString x) xp) p sc (L l) H k := by
  subst hu
  rw [awA_name, L_set]; exact ⟨stOkB_iff h, q⟩
theorem aAttr {o : PySem.Expr} {x xp} (q : awE C n o sc m H fun ov H1 => awSetAttr C ov x p H1 (k m)) : awA C n (.Attribute o x xp) p sc m H k := .attr q
theorem aSub {o i : PySem.Expr} {xp} (hi : isSlice i = false) (q : awE C n o sc m H fun ov H1 => awE C n i sc m H1 fun iv H2 => awSetItem ov iv p H2 (k m)) : awA C n (.Subscript o i xp) p sc m H k := .sub hi q
theorem aTup {ts : List PySem.Expr} {ps : List PV} {kk xp} (q : awNames ts ps sc m fun m' => k m' H) : awA C n (.Tuple ts kk xp) (.tup ps) sc m H k := .tup q
theorem ns0 {k : Loc → Prop} (q : k m) : awNames [] [] sc m k := .nil q
theorem nsC {x : String} {xp} {l' : List (String × PV)} {ts : List PySem.Expr} {ps : List PV} {k : Loc → Prop} (h : stOkB sc (Str.ofString x) = true) (hu : upd l x p = l') (q : awNames ts ps sc (L l') k) : awNames (.Name (Str.ofString x) xp :: ts) (p :: ps) sc (L l) k := .cons (stOkB_iff h) (by subst hu; rw [L_set]; exact q)
end

section
variable {Q : PV → AH → Prop}
theorem bAI {x y : Int} (q : Q (.int (x + y)) H) : awBin .Add (.int x) (.int y) H Q := .addI q
theorem bSI {x y : Int} (q : Q (.int (x - y)) H) : awBin .Sub (.int x) (.int y) H Q := .subI q
theorem bDI {x y : Int} (h : 0 < y ∧ y < 1000000) (q : Q (.int (x / y)) H) : awBin .FloorDiv (.int x) (.int y) H Q := .divI h q
theorem bMI {x y : Int} (h : 0 < y) (q : Q (.int (x % y)) H) : awBin .Mod (.int x) (.int y) H Q := .modI h q
theorem bAS {x y : PySem.Str} (h : x.length + y.length ≤ 16000000) (q : Q (.str (x ++ y)) H) : awBin .Add (.str x) (.str y) H Q := .addS h q
theorem bAT {x y : List PV} (h : x.length + y.length ≤ 1000) (q : Q (.tup (x ++ y)) H) : awBin .Add (.tup x) (.tup y) H Q := .addT h q
theorem bAL {a b : Addr} {x y : List PV} (ha : H a = some (.list x)) (hb : H b = some (.list y)) (h : x.length + y.length ≤ 1000) (q : ∀ c, H c = none → Q (.val (.ref c)) (H.set c (.list (x ++ y)))) :
    awBin .Add (.val (.ref a)) (.val (.ref b)) H Q := .addL ha hb h q
theorem cEI {x y : Int} (q : Q (.bool (decide (x = y))) H) : awCmp C .Eq (.int x) (.int y) H Q := .eqI q
theorem cNI {x y : Int} (q : Q (.bool (decide (x ≠ y))) H) : awCmp C .NotEq (.int x) (.int y) H Q := .neI q
theorem cLI {x y : Int} (q : Q (.bool (decide (x < y))) H) : awCmp C .Lt (.int x) (.int y) H Q := .ltI q
theorem cLEI {x y : Int} (q : Q (.bool (decide (x ≤ y))) H) : awCmp C .LtE (.int x) (.int y) H Q := .leI q
theorem cGI {x y : Int} (q : Q (.bool (decide (y < x))) H) : awCmp C .Gt (.int x) (.int y) H Q := .gtI q
theorem cGEI {x y : Int} (q : Q (.bool (decide (y ≤ x))) H) : awCmp C .GtE (.int x) (.int y) H Q := .geI q
theorem cES {x y : PySem.Str} (q : Q (.bool (decide (x = y))) H) : awCmp C .Eq (.str x) (.str y) H Q := .eqS q
theorem cNS {x y : PySem.Str} (q : Q (.bool (decide (x ≠ y))) H) : awCmp C .NotEq (.str x) (.str y) H Q := .neS q
/-- `in` a dict of the run -/
theorem cInD {k : Int} {a : Addr} {f : Int → Option PV} {j : Nat} (ha : H a = some (.idict f j)) (q : Q (.bool (f k).isSome) H) : awCmp C .In (.int k) (.val (.ref a)) H Q := .inD ha q
/-- `in` a dict of the top -/
theorem cInF {k : Int} {a : Addr} {f : Int → Option PV} (hf : C.FD a = some f) (q : Q (.bool (f k).isSome) H) : awCmp C .In (.int k) (.val (.ref a)) H Q := .inF hf q
theorem cNinT {ks : List PV} {a : Addr} {f : List PV → Option PV} {j : Nat} (ha : H a = some (.tdict f j)) (hk : keyD 3 (.tup ks)) (q : Q (.bool (!(f ks).isSome)) H) : awCmp C .NotIn (.tup ks) (.val (.ref a)) H Q := .niT ha hk q
/-- items -/
theorem gT {l : List PV} {k : Int} {p : PV} (hb : -1000000 < k ∧ k < 1000000) (h : itemAt l k = some p) (q : Q p H) : awItem C (.tup l) (.int k) H Q := .tup hb h q
theorem gL {a : Addr} {l : List PV} {k : Int} {p : PV} (ha : H a = some (.list l)) (hb : -1000000 < k ∧ k < 1000000) (h : itemAt l k = some p) (q : Q p H) : awItem C (.val (.ref a)) (.int k) H Q := .lst ha hb h q
theorem gD {a : Addr} {f : Int → Option PV} {j : Nat} {k : Int} {p : PV} (ha : H a = some (.idict f j)) (h : f k = some p) (q : Q p H) : awItem C (.val (.ref a)) (.int k) H Q := .dic ha h q
theorem gF {a : Addr} {f : Int → Option PV} {k : Int} {p : PV} (hf : C.FD a = some f) (h : f k = some p) (q : Q p H) : awItem C (.val (.ref a)) (.int k) H Q := .fix hf h q
theorem gK {a : Addr} {f : List PV → Option PV} {j : Nat} {ks : List PV} {p : PV} (ha : H a = some (.tdict f j)) (hk : keyD 3 (.tup ks)) (h : f ks = some p) (q : Q p H) : awItem C (.val (.ref a)) (.tup ks) H Q := .key ha hk h q
theorem sIDi {a : Addr} {f : Int → Option PV} {j : Nat} {i : Int} {p : PV} {k : AH → Prop} (ha : H a = some (.idict f j)) (hj : j < 1000000) (q : k (H.set a (.idict (fun x => if x = i then some p else f x) (j + 1)))) :
    awSetItem (.val (.ref a)) (.int i) p H k := .int ha hj q
theorem sIDt {a : Addr} {f : List PV → Option PV} {j : Nat} {ks : List PV} {p : PV} {k : AH → Prop} (ha : H a = some (.tdict f j)) (hk : keyD 3 (.tup ks)) (hj : j < 1000000) (q : k (H.set a (.tdict (fun x => if x = ks then some p else f x) (j + 1)))) :
    awSetItem (.val (.ref a)) (.tup ks) p H k := .key ha hk hj q
/-- slices -/
theorem lUp {a : Addr} {l : List PV} {y : Int} (hl : H a = some (.list l) ∨ C.FL a = some l) (hb : 0 ≤ y ∧ l.length ≤ 100000) (q : ∀ c, H c = none → Q (.val (.ref c)) (H.set c (.list (l.take y.toNat)))) :
    awSlice C (.val (.ref a)) .none (.int y) .none H Q := .upto hl hb q
theorem lRun {a : Addr} {l : List PV} {x y : Int} (ha : H a = some (.list l)) (hb : 0 ≤ x ∧ x ≤ y ∧ y ≤ l.length ∧ l.length ≤ 100000) (q : ∀ c, H c = none → Q (.val (.ref c)) (H.set c (.list ((l.drop x.toNat).take (y.toNat - x.toNat))))) :
    awSlice C (.val (.ref a)) (.int x) (.int y) .none H Q := .run ha hb q
theorem lRev {a : Addr} {l : List PV} (ha : H a = some (.list l)) (hb : l.length ≤ 100000) (q : ∀ c, H c = none → Q (.val (.ref c)) (H.set c (.list l.reverse))) :
    awSlice C (.val (.ref a)) .none .none (.int (-1)) H Q := .rev ha hb q
theorem lTup {l : List PV} {x : Int} (hb : 0 ≤ x ∧ x ≤ l.length ∧ l.length ≤ 100000) (q : Q (.tup (l.drop x.toNat)) H) : awSlice C (.tup l) (.int x) .none .none H Q := .tup hb q
/-- attributes of the table -/
theorem gA {a d b : Addr} {fs : PySem.Str → Option PV} {j : Nat} {x : PySem.Str} (ha : H a = some (.inst C.KT d)) (hx : x ∈ C.attrs) (hd : H d = some (.ns fs j)) (hb : fs x = some (.val (.ref b))) (q : Q (.val (.ref b)) H) :
    awAttr C (.val (.ref a)) x H Q := ⟨d, fs, j, b, ha, hx, hd, hb, q⟩
theorem stA {a d : Addr} {fs : PySem.Str → Option PV} {j : Nat} {x : PySem.Str} {p : PV} {k : AH → Prop} (ha : H a = some (.inst C.KT d)) (hx : x ∈ C.attrs) (hd : H d = some (.ns fs j)) (hj : j < 900)
    (q : k (H.set d (.ns (fun y => if y = x then some p else fs y) (j + 1)))) : awSetAttr C (.val (.ref a)) x p H k := ⟨d, fs, j, ha, hx, hd, hj, q⟩
/-- methods -/
theorem mApp {a : Addr} {xs : List PV} {k : Mid → Prop} (ha : H a = some (.list xs)) (q : k (.append a)) : awGetM C (Str.ofString "append") (.val (.ref a)) H k := .app ha q
theorem mGetD {a : Addr} {f : Int → Option PV} {j : Nat} {k : Mid → Prop} (ha : H a = some (.idict f j)) (q : k (.dget a)) : awGetM C (Str.ofString "get") (.val (.ref a)) H k := .getI ha q
theorem mGetT {a : Addr} {f : List PV → Option PV} {j : Nat} {k : Mid → Prop} (ha : H a = some (.tdict f j)) (q : k (.dget a)) : awGetM C (Str.ofString "get") (.val (.ref a)) H k := .getT ha q
theorem mJoin {y : PySem.Str} {k : Mid → Prop} (q : k (.join y)) : awGetM C (Str.ofString "join") (.str y) H k := .join q
theorem mOwn {a d f : Addr} {fs : PySem.Str → Option PV} {j : Nat} {x : PySem.Str} {k : Mid → Prop} (ha : H a = some (.inst C.KT d)) (hd : H d = some (.ns fs j)) (hx : fs x = none) (hf : C.meth x = some f) (hF : (C.Fn f).isSome = true)
    (q : k (.own f (.val (.ref a)))) : awGetM C x (.val (.ref a)) H k := .own ha hd hx hf hF q
theorem rApp {a : Addr} {xs : List PV} {p : PV} (ha : H a = some (.list xs)) (h : xs.length < 1000000) (q : Q .none (H.set a (.list (xs ++ [p])))) : awRunM C n (.append a) [p] H Q := .app ha h q
theorem rGetD {a : Addr} {f : Int → Option PV} {j : Nat} {k : Int} {d : PV} (ha : H a = some (.idict f j)) (q : Q ((f k).getD d) H) : awRunM C n (.dget a) [.int k, d] H Q := .getI ha q
theorem rGetT {a : Addr} {f : List PV → Option PV} {j : Nat} {ks : List PV} {d : PV} (ha : H a = some (.tdict f j)) (hk : keyD 3 (.tup ks)) (q : Q ((f ks).getD d) H) : awRunM C n (.dget a) [.tup ks, d] H Q := .getT ha hk q
theorem rJoin {a : Addr} {sep : PySem.Str} {xs : List PV} {ys : List PySem.Str} (ha : H a = some (.list xs)) (hx : xs = ys.map .str) (hb : (ys.map (·.length)).sum + ys.length * sep.length ≤ 16000000) (q : Q (.str (Txt.join sep ys)) H) : awRunM C n (.join sep) [.val (.ref a)] H Q := .join (ha.trans (by rw [hx])) hb q
theorem rOwn {f : Addr} {self : PV} {args : List PV} (q : CallP C n (.ref f) (self :: args) H Q) : awRunM C n (.own f self) args H Q := .own q
/-- calls -/
theorem fLenT {l : List PV} (h : l.length ≤ 1000000) (q : Q (.int l.length) H) : awCall C n (.val (.builtin "len")) [.tup l] H Q := .len (.tup h q)
theorem fLenL {a : Addr} {l : List PV} (ha : H a = some (.list l)) (h : l.length ≤ 1000000) (q : Q (.int l.length) H) : awCall C n (.val (.builtin "len")) [.val (.ref a)] H Q := .len (.lst ha h q)
theorem fRng1 {i : Int} (h : rngOk 0 i 1) (q : Q (.rng 0 i 1) H) : awCall C n (.val (.type "range")) [.int i] H Q := .rng1 h q
theorem fRng3 {a b c : Int} (h : rngOk a b c) (q : Q (.rng a b c) H) : awCall C n (.val (.type "range")) [.int a, .int b, .int c] H Q := .rng3 h q
theorem fStr {i : Int} (h : -10000000 < i ∧ i < 10000000) (q : Q (.str (Str.ofString (toString i))) H) : awCall C n (.val (.type "str")) [.int i] H Q := .str h q
theorem fTup {a : Addr} {l : List PV} (ha : H a = some (.list l)) (h : l.length ≤ 1000000) (q : Q (.tup l) H) : awCall C n (.val (.type "tuple")) [.val (.ref a)] H Q := .tup ha h q
theorem fDef {f : Addr} {args : List PV} (h : (C.Fn f).isSome = true ∨ f = C.KT) (q : CallP C n (.ref f) args H Q) : awCall C n (.val (.ref f)) args H Q := .fn h q
end
/-- loops -/
theorem itT {l : List PV} {k : (AH → Prop) → List PV → Prop} (q : k (fun _ => True) l) : awIter (.tup l) H k := .tup q
theorem itR {a b c : Int} {k : (AH → Prop) → List PV → Prop} (h : rngOk a b c) (q : k (fun _ => True) (rngItems a b c)) : awIter (.rng a b c) H k := .rng h q
theorem itL {a : Addr} {l : List PV} {k : (AH → Prop) → List PV → Prop} (ha : H a = some (.list l)) (q : k (fun H' => H' a = some (.list l)) l) : awIter (.val (.ref a)) H k := .lst ha q
end
/-- the head of a goal, tried ahead of its rules -/
theorem inE {C : Ctx} {n : Nat} {e : PySem.Expr} {sc : Scope} {m : Loc} {H : AH} {Q : PV → AH → Prop} (h : awE C n e sc m H Q) : awE C n e sc m H Q := h
theorem inEs {C : Ctx} {n : Nat} {e : List PySem.Expr} {sc : Scope} {m : Loc} {H : AH} {Q : List PV → AH → Prop} (h : awEs C n e sc m H Q) : awEs C n e sc m H Q := h
theorem inO {C : Ctx} {n : Nat} {e : Option PySem.Expr} {sc : Scope} {m : Loc} {H : AH} {Q : PV → AH → Prop} (h : awO C n e sc m H Q) : awO C n e sc m H Q := h
theorem inSs {C : Ctx} {n : Nat} {e : List PySem.Stmt} {sc : Scope} {m : Loc} {H : AH} {Q : Fl → Loc → AH → Prop} (h : awSs C n e sc m H Q) : awSs C n e sc m H Q := h
theorem inS {C : Ctx} {n : Nat} {e : PySem.Stmt} {sc : Scope} {m : Loc} {H : AH} {Q : Fl → Loc → AH → Prop} (h : awS C n e sc m H Q) : awS C n e sc m H Q := h
theorem inSeq {C : Ctx} {n : Nat} {r : List PySem.Stmt} {sc : Scope} {Q : Fl → Loc → AH → Prop} {f : Fl} {m : Loc} {H : AH} (h : seqQ C n r sc Q f m H) : seqQ C n r sc Q f m H := h
theorem inRet {Q : PV → AH → Prop} {f : Fl} {m : Loc} {H : AH} (h : retQ Q f m H) : retQ Q f m H := h
theorem inT {C : Ctx} {n : Nat} {e : PySem.Expr} {sc : Scope} {m : Loc} {H : AH} {Q : Bool → AH → Prop} (h : awT C n e sc m H Q) : awT C n e sc m H Q := h
theorem inTs {C : Ctx} {n : Nat} {o : BoolOp} {e : List PySem.Expr} {sc : Scope} {m : Loc} {H : AH} {Q : Bool → AH → Prop} (h : awTs C n o e sc m H Q) : awTs C n o e sc m H Q := h
theorem inB {C : Ctx} {n : Nat} {o : BoolOp} {e : List PySem.Expr} {sc : Scope} {m : Loc} {H : AH} {Q : PV → AH → Prop} (h : awB C n o e sc m H Q) : awB C n o e sc m H Q := h
theorem inCmp {C : Ctx} {o : CmpOp} {a b : PV} {H : AH} {Q : PV → AH → Prop} (h : awCmp C o a b H Q) : awCmp C o a b H Q := h
theorem inBin {o : Operator} {a b : PV} {H : AH} {Q : PV → AH → Prop} (h : awBin o a b H Q) : awBin o a b H Q := h
theorem inA {C : Ctx} {n : Nat} {t : PySem.Expr} {p : PV} {sc : Scope} {m : Loc} {H : AH} {k : Loc → AH → Prop} (h : awA C n t p sc m H k) : awA C n t p sc m H k := h
theorem inNs {ts : List PySem.Expr} {ps : List PV} {sc : Scope} {m : Loc} {k : Loc → Prop} (h : awNames ts ps sc m k) : awNames ts ps sc m k := h
theorem inAttr {C : Ctx} {o : PV} {x : PySem.Str} {H : AH} {Q : PV → AH → Prop} (h : awAttr C o x H Q) : awAttr C o x H Q := h
theorem inGetM {C : Ctx} {x : PySem.Str} {o : PV} {H : AH} {k : Mid → Prop} (h : awGetM C x o H k) : awGetM C x o H k := h
theorem inCall {C : Ctx} {n : Nat} {f : PV} {as : List PV} {H : AH} {Q : PV → AH → Prop} (h : awCall C n f as H Q) : awCall C n f as H Q := h
/-- a name looked up: what the names say of it, then a local's value or a global's -/
structure nmQ (C : Ctx) (sc : Scope) (x : String) (H : AH) (Q : PV → AH → Prop) (r : Option PV) : Prop where
  q : match r with
    | some p => Q p H
    | none => sc.names.lookup (Str.ofString x) = some .globalImplicit ∧ ∃ p, C.Gl (Str.ofString x) = some p ∧ Q p H
theorem nmS {C : Ctx} {sc : Scope} {x : String} {H : AH} {Q : PV → AH → Prop} {p : PV} (q : Q p H) : nmQ C sc x H Q (some p) := ⟨q⟩
theorem iN {C : Ctx} {n : Nat} {sc : Scope} {H : AH} {l : List (String × PV)} {Q : PV → AH → Prop} {x : String} {pos} {r : Option PV} (hm : lkS l x = r) (hd : (x = "__debug__") = False) (q : nmQ C sc x H Q r) : awE C n (.Name (Str.ofString x) pos) sc (L l) H Q := by
  show _ ∧ _
  refine ⟨nodebug hd, ?_⟩
  have h := q.q
  unfold awName
  rw [L_lkS, hm]
  cases r <;> exact h
theorem inNm {C : Ctx} {sc : Scope} {x : String} {H : AH} {Q : PV → AH → Prop} {r : Option PV} (h : nmQ C sc x H Q r) : nmQ C sc x H Q r := h
-- the same rules, at a scope that is known by an equation
section
variable {C : Ctx} {n : Nat} {sc sc₀ : Scope} {m : Loc} {H : AH} {l : List (String × PV)}
theorem sSetH {Q : Fl → Loc → AH → Prop} {x : String} {xp pos} {v : PySem.Expr} (hsc : sc = sc₀) (h : (stOkB sc₀ (Str.ofString x) && !isComp v) = true)
    (q : awE C n v sc (L l) H fun p H1 => Q .next (L (upd l x p)) H1) : awS C n (.Assign [.Name (Str.ofString x) xp] v pos) sc (L l) H Q := sSet (by subst hsc; exact h) q
theorem sSetCH {Q : Fl → Loc → AH → Prop} {x : String} {xp pos cp} {elt : PySem.Expr} {gens : List Comprehension} {scope : Scope} (hsc : sc = sc₀)
    (h : (decide (sc₀.names.lookup (Str.ofString x) = some .local) && decide (xp.line = cp.line) && !(scope.names.any fun (n, k) => n == Str.ofString x && (k == .local || k == .cell))) = true)
    (q : awE C n (.ListComp elt gens scope cp) sc (L l) H fun p H1 => Q .next (L (upd l x p)) H1) : awS C n (.Assign [.Name (Str.ofString x) xp] (.ListComp elt gens scope cp) pos) sc (L l) H Q := sSetC (by subst hsc; exact h) q
theorem sAugH {Q : Fl → Loc → AH → Prop} {x : String} {xp pos} {v : PySem.Expr} {old : Int} (hsc : sc = sc₀) (h : stOkB sc₀ (Str.ofString x) = true) (hm : lkS l x = some (.int old))
    (q : awE C n v sc (L l) H fun p H1 => ∃ j, p = .int j ∧ Q .next (L (upd l x (.int (old + j)))) H1) : awS C n (.AugAssign (.Name (Str.ofString x) xp) .Add v pos) sc (L l) H Q := sAug (by subst hsc; exact h) ((L_lkS l x).trans hm) q
theorem iComH {Q : PV → AH → Prop} {elt iter : PySem.Expr} {x : String} {px pos} {scope : Scope} (hsc : sc = sc₀) (h : (compOk scope sc₀ (Str.ofString x) && !isSet iter) = true)
    (q : awE C n iter sc (L l) H fun iv H1 => awIter iv H1 fun chk items => items.length ≤ 1000 ∧
        awComp (fun p H2 k => awE C n elt scope (L ((x, p) :: freeL scope l)) H2 k) chk items H1 [] fun vs H3 => ∀ c, H3 c = none → Q (.val (.ref c)) (H3.set c (.list vs))) :
    awE C n (.ListComp elt [⟨.Name (Str.ofString x) px, iter, [], 0⟩] scope pos) sc (L l) H Q := iCom (by subst hsc; exact h) q
theorem aNameH {k : Loc → AH → Prop} {p : PV} {x : String} {xp} {l' : List (String × PV)} (hsc : sc = sc₀) (h : stOkB sc₀ (Str.ofString x) = true) (hu : upd l x p = l') (q : k (L l') H) : awA C n (.Name (Str.ofString x) xp) p sc (L l) H k := aName (by subst hsc; exact h) hu q
theorem nsCH {x : String} {xp} {l' : List (String × PV)} {ts : List PySem.Expr} {p : PV} {ps : List PV} {k : Loc → Prop} (hsc : sc = sc₀) (h : stOkB sc₀ (Str.ofString x) = true) (hu : upd l x p = l') (q : awNames ts ps sc (L l') k) : awNames (.Name (Str.ofString x) xp :: ts) (p :: ps) sc (L l) k := nsC (by subst hsc; exact h) hu q
end
end
section
open PySem PySem.W PySem.Calls PyProof.Rows
open scoped Classical

noncomputable def primWords : List String := ["void", "bool", "char", "sbyte", "byte", "short", "ushort", "int", "uint", "long", "ulong", "native int", "object", "string", "null", "?"]
noncomputable def primW : List PV := primWords.map fun x => .str (Str.ofString x)
noncomputable def glist : List (String × PV) := [("VOID", .int 0), ("BOOL", .int 1), ("CHAR", .int 2), ("I1", .int 3), ("U1", .int 4), ("I2", .int 5), ("U2", .int 6), ("I4", .int 7), ("U4", .int 8), ("I8", .int 9), ("U8", .int 10), ("NINT", .int 11), ("OBJECT", .int 12), ("STRING", .int 13), ("NULLK", .int 14), ("PRIM_END", .int 16), ("R_PRIM", .int 1), ("R_CLASS", .int 2), ("R_VALUE", .int 3), ("R_ARRAY", .int 4), ("R_BYREF", .int 5), ("R_VAR", .int 6), ("R_MVAR", .int 7), ("R_BOXED", .int 8), ("R_ROREF", .int 9), ("R_FTN", .int 10), ("R_RAW", .int 11), ("DEEPEST_KIND", .int 24), ("HEAVIEST_KIND", .int 4096), ("MOST_SHOWN", .int 8), ("TID_PRIM", .val (.ref 47)), ("KindTable", .val (.ref 79)), ("inner_kinds", .val (.ref 90)), ("row_level", .val (.ref 97)), ("row_length", .val (.ref 104)), ("check_kind_row", .val (.ref 111)), ("check_named", .val (.ref 118)), ("check_args", .val (.ref 125)), ("may_stand", .val (.ref 132)), ("class_kind", .val (.ref 139)), ("value_kind", .val (.ref 146)), ("prim_kind", .val (.ref 153)), ("array_kind", .val (.ref 160)), ("byref_kind", .val (.ref 167)), ("var_kind", .val (.ref 174)), ("mvar_kind", .val (.ref 181)), ("boxed_kind", .val (.ref 188)), ("roref_kind", .val (.ref 195)), ("ftn_kind", .val (.ref 202)), ("raw_kind", .val (.ref 209)), ("is_value", .val (.ref 216)), ("is_var", .val (.ref 223)), ("AROUND_WORDS", .val (.ref 224)), ("show_kind", .val (.ref 236)), ("show_level", .val (.ref 243)), ("show_parts", .val (.ref 250)), ("show_core", .val (.ref 257)), ("show_name", .val (.ref 264)), ("show_args", .val (.ref 271)), ("_law_leaf", .val (.ref 279)), ("_law_step", .val (.ref 284)), ("_law_words", .val (.ref 289)), ("_law_wrapped", .val (.ref 296)), ("_law_pointer", .val (.ref 301)), ("_law_names", .val (.ref 308)), ("PRIM_WORDS", .tup primW), ("_law_PRIMS", .tup primW), ("len", .val (.builtin "len")), ("range", .val (.type "range")), ("str", .val (.type "str")), ("tuple", .val (.type "tuple"))]
theorem glA : lkS glist "VOID" = some (.int 0) ∧ lkS glist "BOOL" = some (.int 1) ∧ lkS glist "CHAR" = some (.int 2) ∧ lkS glist "I1" = some (.int 3) ∧ lkS glist "U1" = some (.int 4) ∧ lkS glist "I2" = some (.int 5) ∧ lkS glist "U2" = some (.int 6) ∧ lkS glist "I4" = some (.int 7) ∧ lkS glist "U4" = some (.int 8) ∧ lkS glist "I8" = some (.int 9) ∧ lkS glist "U8" = some (.int 10) ∧ lkS glist "NINT" = some (.int 11) ∧ lkS glist "OBJECT" = some (.int 12) ∧ lkS glist "STRING" = some (.int 13) ∧ lkS glist "NULLK" = some (.int 14) ∧ lkS glist "PRIM_END" = some (.int 16) ∧ lkS glist "R_PRIM" = some (.int 1) ∧ lkS glist "R_CLASS" = some (.int 2) ∧ lkS glist "R_VALUE" = some (.int 3) ∧ lkS glist "R_ARRAY" = some (.int 4) ∧ lkS glist "R_BYREF" = some (.int 5) ∧ lkS glist "R_VAR" = some (.int 6) ∧ lkS glist "R_MVAR" = some (.int 7) ∧ lkS glist "R_BOXED" = some (.int 8) ∧ lkS glist "R_ROREF" = some (.int 9) ∧ lkS glist "R_FTN" = some (.int 10) ∧ lkS glist "R_RAW" = some (.int 11) ∧ lkS glist "DEEPEST_KIND" = some (.int 24) ∧ lkS glist "HEAVIEST_KIND" = some (.int 4096) ∧ lkS glist "MOST_SHOWN" = some (.int 8) ∧ lkS glist "TID_PRIM" = some (.val (.ref 47)) ∧ lkS glist "KindTable" = some (.val (.ref 79)) ∧ lkS glist "inner_kinds" = some (.val (.ref 90)) ∧ lkS glist "row_level" = some (.val (.ref 97)) ∧ lkS glist "row_length" = some (.val (.ref 104)) ∧ lkS glist "check_kind_row" = some (.val (.ref 111)) ∧ lkS glist "check_named" = some (.val (.ref 118)) ∧ lkS glist "check_args" = some (.val (.ref 125)) ∧ lkS glist "may_stand" = some (.val (.ref 132)) ∧ lkS glist "class_kind" = some (.val (.ref 139)) ∧ lkS glist "value_kind" = some (.val (.ref 146)) ∧ lkS glist "prim_kind" = some (.val (.ref 153)) ∧ lkS glist "array_kind" = some (.val (.ref 160)) ∧ lkS glist "byref_kind" = some (.val (.ref 167)) ∧ lkS glist "var_kind" = some (.val (.ref 174)) ∧ lkS glist "mvar_kind" = some (.val (.ref 181)) ∧ lkS glist "boxed_kind" = some (.val (.ref 188)) ∧ lkS glist "roref_kind" = some (.val (.ref 195)) ∧ lkS glist "ftn_kind" = some (.val (.ref 202)) ∧ lkS glist "raw_kind" = some (.val (.ref 209)) ∧ lkS glist "is_value" = some (.val (.ref 216)) ∧ lkS glist "is_var" = some (.val (.ref 223)) ∧ lkS glist "AROUND_WORDS" = some (.val (.ref 224)) ∧ lkS glist "show_kind" = some (.val (.ref 236)) ∧ lkS glist "show_level" = some (.val (.ref 243)) ∧ lkS glist "show_parts" = some (.val (.ref 250)) ∧ lkS glist "show_core" = some (.val (.ref 257)) ∧ lkS glist "show_name" = some (.val (.ref 264)) ∧ lkS glist "show_args" = some (.val (.ref 271)) ∧ lkS glist "_law_leaf" = some (.val (.ref 279)) ∧ lkS glist "_law_step" = some (.val (.ref 284)) ∧ lkS glist "_law_words" = some (.val (.ref 289)) ∧ lkS glist "_law_wrapped" = some (.val (.ref 296)) ∧ lkS glist "_law_pointer" = some (.val (.ref 301)) ∧ lkS glist "_law_names" = some (.val (.ref 308)) ∧ lkS glist "PRIM_WORDS" = some (.tup primW) ∧ lkS glist "_law_PRIMS" = some (.tup primW) ∧ lkS glist "len" = some (.val (.builtin "len")) ∧ lkS glist "range" = some (.val (.type "range")) ∧ lkS glist "str" = some (.val (.type "str")) ∧ lkS glist "tuple" = some (.val (.type "tuple")) := ⟨by kernel_rfl, by kernel_rfl, by kernel_rfl, by kernel_rfl, by kernel_rfl, by kernel_rfl, by kernel_rfl, by kernel_rfl, by kernel_rfl, by kernel_rfl, by kernel_rfl, by kernel_rfl, by kernel_rfl, by kernel_rfl, by kernel_rfl, by kernel_rfl, by kernel_rfl, by kernel_rfl, by kernel_rfl, by kernel_rfl, by kernel_rfl, by kernel_rfl, by kernel_rfl, by kernel_rfl, by kernel_rfl, by kernel_rfl, by kernel_rfl, by kernel_rfl, by kernel_rfl, by kernel_rfl, by kernel_rfl, by kernel_rfl, by kernel_rfl, by kernel_rfl, by kernel_rfl, by kernel_rfl, by kernel_rfl, by kernel_rfl, by kernel_rfl, by kernel_rfl, by kernel_rfl, by kernel_rfl, by kernel_rfl, by kernel_rfl, by kernel_rfl, by kernel_rfl, by kernel_rfl, by kernel_rfl, by kernel_rfl, by kernel_rfl, by kernel_rfl, by kernel_rfl, by kernel_rfl, by kernel_rfl, by kernel_rfl, by kernel_rfl, by kernel_rfl, by kernel_rfl, by kernel_rfl, by kernel_rfl, by kernel_rfl, by kernel_rfl, by kernel_rfl, by kernel_rfl, by kernel_rfl, by kernel_rfl, by kernel_rfl, by kernel_rfl, by kernel_rfl, by kernel_rfl, by kernel_rfl⟩

noncomputable def fnList : List Nat := [62, 69, 76, 90, 97, 104, 111, 118, 125, 132, 139, 146, 153, 160, 167, 174, 181, 188, 195, 202, 209, 216, 223, 236, 243, 250, 257, 264, 271, 279, 284, 289, 296, 301, 308]
/-- the text's statements, and a def's record -/
noncomputable def stAt : List PySem.Stmt → Nat → PySem.Stmt
  | s :: _, 0 => s
  | _ :: r, n + 1 => stAt r n
  | [], _ => .Pass default
noncomputable def clsAt (s : PySem.Stmt) (j : Nat) : PySem.Stmt := match s with
  | .ClassDef _ _ _ b .. => stAt b j
  | s => s
noncomputable def fnOf (s : PySem.Stmt) (q : Option String) (py : Value) (c : Nat) : Option FuncData := match s with
  | .FunctionDef n a b _ _ _ sc _ _ _ => some { name := n, qualname := (match q with | some q => Str.ofString q | none => n), params := a, body := .stmts b, scope := sc, globals := 3, closure := [], defaults := .none, kwdefaults := .none, pyModule := py, code := .ref c }
  | _ => none
noncomputable def kindsFn (i c : Nat) : Option FuncData := fnOf (stAt PySem.Challenge.pw_xm0286_01.main.body i) none (.str (Str.ofString "framerune.kinds") 236) c
noncomputable def lawFn (i c : Nat) : Option FuncData := fnOf (stAt PySem.Challenge.pw_xm0286_01.main.body i) none (.str (Str.ofString "law_xm0286_01") 655) c
noncomputable def methFn (j : Nat) (q : String) (c : Nat) : Option FuncData := fnOf (clsAt (stAt PySem.Challenge.pw_xm0286_01.main.body 35) j) (some q) (.str (Str.ofString "framerune.kinds") 236) c
noncomputable def fnRaw (a : Nat) : Option FuncData := match a with
  | 62 => methFn 0 "KindTable.__init__" 61
  | 69 => methFn 1 "KindTable.row" 68
  | 76 => methFn 2 "KindTable.put" 75
  | 90 => kindsFn 36 89
  | 97 => kindsFn 37 96
  | 104 => kindsFn 38 103
  | 111 => kindsFn 39 110
  | 118 => kindsFn 40 117
  | 125 => kindsFn 41 124
  | 132 => kindsFn 42 131
  | 139 => kindsFn 43 138
  | 146 => kindsFn 44 145
  | 153 => kindsFn 45 152
  | 160 => kindsFn 46 159
  | 167 => kindsFn 47 166
  | 174 => kindsFn 48 173
  | 181 => kindsFn 49 180
  | 188 => kindsFn 50 187
  | 195 => kindsFn 51 194
  | 202 => kindsFn 52 201
  | 209 => kindsFn 53 208
  | 216 => kindsFn 54 215
  | 223 => kindsFn 55 222
  | 236 => kindsFn 58 235
  | 243 => kindsFn 59 242
  | 250 => kindsFn 60 249
  | 257 => kindsFn 61 256
  | 264 => kindsFn 62 263
  | 271 => kindsFn 63 270
  | 279 => lawFn 66 278
  | 284 => lawFn 67 283
  | 289 => lawFn 68 288
  | 296 => lawFn 69 295
  | 301 => lawFn 70 300
  | 308 => lawFn 71 307
  | _ => none
noncomputable def fnTab (_p : Params) (a : Nat) : Option FuncData := if a ∈ fnList then fnRaw a else none
theorem fn_all_some (p : Params) : fnList.all (fun f => (fnTab p f).isSome) = true := by kernel_rfl
theorem fn_some {p : Params} {f : Nat} (h : f ∈ fnList) : (fnTab p f).isSome = true := List.all_eq_true.mp (fn_all_some p) f h
/-- TID_PRIM, AROUND_WORDS -/
noncomputable def tidPrim : Int → Option PV := fun k => (([(20, 0), (9, 1), (10, 2), (11, 3), (12, 4), (13, 5), (14, 6), (15, 7), (16, 8), (17, 9), (18, 10), (19, 11), (1, 12), (4, 13)] : List (Int × Int)).lookup k).map .int
noncomputable def around : Int → Option PV := fun k => (([(4, ("", "[]")), (5, ("", "&")), (8, ("boxed ", "")), (9, ("readonly ", "&")), (11, ("raw ", ""))] : List (Int × String × String)).lookup k).map fun e => .tup [.str (Str.ofString e.1), .str (Str.ofString e.2)]
noncomputable def ourFD (a : Addr) : Option (Int → Option PV) := if a = 47 then some tidPrim else if a = 224 then some around else none
noncomputable def ourMeth (x : PySem.Str) : Option Addr := if x = Str.ofString "put" then some 76 else if x = Str.ofString "row" then some 69 else if x = Str.ofString "__init__" then some 62 else none

structure Our (C : Ctx) (p : Params) : Prop where
  gl : C.Gl = L glist
  fn : C.Fn = fnTab p
  kt : C.KT = 79
  fd : C.FD = ourFD
  attrs : C.attrs = ["rows", "index", "depths", "weights", "opens"].map Str.ofString
  meth : C.meth = ourMeth

theorem zip_upd : ∀ (ps : List String) (as : List PV) (l : List (String × PV)), ps.Nodup → (∀ x ∈ ps, ∀ e ∈ l, e.1 ≠ x) → (ps.zip as).foldl (fun l e => upd l e.1 e.2) l = l ++ ps.zip as
  | [], _, l, _, _ => by simp
  | _ :: _, [], l, _, _ => by simp
  | p :: ps, a :: as, l, hn, hl => by
    have hu : ∀ (l : List (String × PV)), (∀ e ∈ l, e.1 ≠ p) → upd l p a = l ++ [(p, a)] := by
      intro l h
      induction l with
      | nil => rfl
      | cons e r ih =>
        obtain ⟨b, q⟩ := e
        rw [upd_miss (h (b, q) (by simp)), ih fun e he => h e (by simp [he])]; rfl
    rw [List.zip_cons_cons, List.foldl_cons, hu l (hl p (by simp)), zip_upd ps as _ (List.nodup_cons.mp hn).2 fun x hx e he => ?_]
    · simp
    · rcases List.mem_append.mp he with he | he
      · exact hl x (by simp [hx]) e he
      · simp only [List.mem_singleton] at he
        subst he
        rintro rfl
        exact (List.nodup_cons.mp hn).1 hx

noncomputable def defOk (ps : List String) (sc : Scope) : Bool := ps.all (fun x => stOkB sc (Str.ofString x)) && decide ps.Nodup && !sc.isCoroutine && !sc.isGenerator && decide (sc.kind = .function)

theorem our_call {C : Ctx} {p : Params} {mg mb : PySem.Str → Option Value} (G : Good C mg mb) (ho : Our C p) {n : Nat} {H : AH} {f : Nat} {fd : FuncData} {ps : List String} {body : List PySem.Stmt} {args : List PV} {Q : PV → AH → Prop}
    (hf : fnTab p f = some fd) (hb : fd.body = .stmts body) (hlen : args.length = ps.length) (hbind : ∀ vs : List Value, vs.length = ps.length → bindArgs fd ⟨vs, []⟩ = pure ((ps.map Str.ofString).zip vs)) {sc₀ : Scope} (hsc : fd.scope = sc₀) (hok : defOk ps sc₀ = true)
    (h : ∀ sc, sc = sc₀ → awSs C n body sc (L (ps.zip args)) H (retQ Q)) : CodeP C (n + 1) (.ref f) args H Q := by
  subst hsc
  unfold defOk at hok
  simp only [Bool.and_eq_true, List.all_eq_true, decide_eq_true_eq, Bool.not_eq_true'] at hok
  obtain ⟨⟨⟨⟨h1, h2⟩, h3⟩, h4⟩, h5⟩ := hok
  refine code_fn G (f := f) (fd := fd) (ps := ps.map Str.ofString) (by rw [ho.fn]; exact hf) hb (by simpa using hlen) (fun vs hv => hbind vs (by simpa using hv)) (fun x hx => ?_) h3 h4 h5 ?_
  · obtain ⟨y, hy, rfl⟩ := List.mem_map.mp hx
    exact stOkB_iff (h1 y hy)
  · have := h fd.scope rfl
    rw [show (fun _ => none : Loc) = L [] from rfl, bindLoc_L, zip_upd ps args [] h2 (fun _ _ _ he => nomatch he), List.nil_append]
    exact this

/-- a global's value -/
theorem iNGo {C : Ctx} {p : Params} (ho : Our C p) {n : Nat} {H : AH} {sc : Scope} {l : List (String × PV)} {Q : PV → AH → Prop} {x : String} {pos} {q : PV} (hm : L l (Str.ofString x) = none) (hs : sc.names.lookup (Str.ofString x) = some .globalImplicit)
    (hg : L glist (Str.ofString x) = some q) (hd : (x = "__debug__") = False) (k : Q q H) : awE C n (.Name (Str.ofString x) pos) sc (L l) H Q := iNG hm hs (by rw [ho.gl]; exact hg) hd k
theorem nmN {C : Ctx} {p : Params} (ho : Our C p) {H : AH} {sc sc₀ : Scope} {Q : PV → AH → Prop} {x : String} {q : PV} (hsc : sc = sc₀) (hs : sc₀.names.lookup (Str.ofString x) = some .globalImplicit) (hg : lkS glist x = some q) (k : Q q H) : nmQ C sc x H Q none :=
  ⟨by subst hsc; exact ⟨hs, q, by rw [ho.gl]; exact (L_lkS glist x).trans hg, k⟩⟩
end
section
open PySem PySem.W PySem.Calls PyProof.Rows
open scoped Classical

theorem lnA {vs : List PV} {X : Prop} (h : vs.length ≤ 1000) (x : X) : vs.length ≤ 1000 ∧ X := ⟨h, x⟩
theorem spDt {P : Prop} [Decidable P] {X Y : Prop} (h : P) (x : X) : (decide P = true → X) ∧ (decide P = false → Y) := ⟨fun _ => x, fun e => absurd h (of_decide_eq_false e)⟩
theorem spDf {P : Prop} [Decidable P] {X Y : Prop} (h : ¬ P) (y : Y) : (decide P = true → X) ∧ (decide P = false → Y) := ⟨fun e => absurd (of_decide_eq_true e) h, fun _ => y⟩
theorem spNt {P : Prop} [Decidable P] {X Y : Prop} (h : ¬ P) (x : X) : ((!decide P) = true → X) ∧ ((!decide P) = false → Y) := ⟨fun _ => x, fun e => absurd (by simpa using e) h⟩
theorem spNf {P : Prop} [Decidable P] {X Y : Prop} (h : P) (y : Y) : ((!decide P) = true → X) ∧ ((!decide P) = false → Y) := ⟨fun e => absurd h (by simpa using e), fun _ => y⟩
theorem spNT {X Y : Prop} (y : Y) : ((!true) = true → X) ∧ ((!true) = false → Y) := ⟨fun e => (nomatch e), fun _ => y⟩
theorem spNF {X Y : Prop} (x : X) : ((!false) = true → X) ∧ ((!false) = false → Y) := ⟨fun _ => x, fun e => (nomatch e)⟩
theorem spIs {o : Option PV} {X Y : Prop} {p : PV} (h : o = some p) (x : X) : (o.isSome = true → X) ∧ (o.isSome = false → Y) := ⟨fun _ => x, fun e => by rw [h] at e; cases e⟩
theorem spIn {o : Option PV} {X Y : Prop} (h : o = none) (y : Y) : (o.isSome = true → X) ∧ (o.isSome = false → Y) := ⟨fun e => (by rw [h] at e; cases e), fun _ => y⟩
theorem spI {o : Option PV} {X Y : Prop} (h1 : ∀ p, o = some p → X) (h2 : o = none → Y) : (o.isSome = true → X) ∧ (o.isSome = false → Y) := ⟨fun e => (Option.isSome_iff_exists.mp e).elim fun p hp => h1 p hp, fun e => h2 (by cases o with | none => rfl | some p => cases e)⟩
theorem spNI {o : Option PV} {X Y : Prop} (h1 : o = none → X) (h2 : ∀ p, o = some p → Y) : ((!o.isSome) = true → X) ∧ ((!o.isSome) = false → Y) := ⟨fun e => h1 (by cases o with | none => rfl | some p => cases e), fun e => by
  cases o with
  | none => cases e
  | some p => exact h2 p rfl⟩

theorem cUse {C : Ctx} {k n : Nat} {f : Value} {args : List PV} {H : AH} {Q0 Q : PV → AH → Prop} (h : CodeP C k f args H Q0) (hk : k ≤ n) (w : ∀ p H', Q0 p H' → Q p H') : CallP C n f args H Q := (h.mono hk).callP.weaken w

theorem hset {H : AH} {a : Addr} {o : AObj} : (H.set a o) a = some o := by unfold AH.set; rw [if_pos rfl]
theorem hset_ne {H : AH} {a b : Addr} {o : AObj} {r : Option AObj} (h : b ≠ a) (e : H b = r) : (H.set a o) b = r := by unfold AH.set; rw [if_neg h]; exact e
theorem ne_fresh {H : AH} {a c : Addr} {o : AObj} (ha : H a = some o) (hc : H c = none) : a ≠ c := by rintro rfl; rw [hc] at ha; cases ha
theorem ne_kind {H : AH} {a b : Addr} {o o' : AObj} (ha : H a = some o) (hb : H b = some o') (h : o ≠ o') : a ≠ b := by rintro rfl; rw [ha] at hb; cases hb; exact h rfl

/-- an `if` whose ways meet again -/
theorem sIfJ {C : Ctx} {n : Nat} {sc : Scope} {m : Loc} {H : AH} {Q : Fl → Loc → AH → Prop} {t : PySem.Expr} {b o : List PySem.Stmt} {pos} (J : Loc → AH → Prop)
    (q : ∀ K : Fl → Loc → AH → Prop, (∀ m' H', J m' H' → K .next m' H') → (∀ v m' H', Q (.ret v) m' H' → K (.ret v) m' H') → awT C n t sc m H fun c H1 => (c = true → awSs C n b sc m H1 K) ∧ (c = false → awSs C n o sc m H1 K))
    (k : ∀ m' H', J m' H' → Q .next m' H') : awS C n (.If t b o pos) sc m H Q := sIf (q Q k fun _ _ _ h => h)
theorem loopI {B : Loc → AH → (Fl → Loc → AH → Prop) → Prop} {asg : PV → Loc → AH → (Loc → AH → Prop) → Prop} {chk : AH → Prop} {items : List PV} {m : Loc} {H : AH} {Q : Fl → Loc → AH → Prop} (I : Nat → Loc → AH → Prop) (h0 : I 0 m H)
    (hc : ∀ i m H, i ≤ items.length → I i m H → chk H)
    (step : ∀ i p m H K, items[i]? = some p → I i m H → (∀ m' H', I (i + 1) m' H' → K .next m' H') → (∀ v m' H', Q (.ret v) m' H' → K (.ret v) m' H') → asg p m H (fun m1 H1 => B m1 H1 K))
    (fin : ∀ m H, I items.length m H → Q .next m H) : awLoop B asg chk items m H Q := by
  have main : ∀ (l : List PV) (i : Nat) (m : Loc) (H : AH), items.drop i = l → i ≤ items.length → I i m H → awLoop B asg chk l m H Q := by
    intro l
    induction l with
    | nil =>
      intro i m H hd hi h
      have : items.length ≤ i := List.drop_eq_nil_iff.mp hd
      have e : i = items.length := Nat.le_antisymm hi this
      exact ⟨hc i m H hi h, fin m H (e ▸ h)⟩
    | cons p r ih =>
      intro i m H hd hi h
      have hlt : i < items.length := by
        rcases Nat.lt_or_ge i items.length with q | q
        · exact q
        · rw [List.drop_eq_nil_of_le q] at hd; cases hd
      rw [List.drop_eq_getElem_cons hlt] at hd
      injection hd with h1 h2
      refine ⟨hc i m H hi h, step i p m H _ (by rw [List.getElem?_eq_getElem hlt, h1]) h (fun m' H' h' => ?_) fun v m' H' q => ?_⟩
      · exact ih (i + 1) m' H' h2 hlt h'
      · exact q
  exact main items 0 m H List.drop_zero (Nat.zero_le _) h0

theorem compI {B : PV → AH → (PV → AH → Prop) → Prop} {chk : AH → Prop} {items : List PV} {H : AH} {Q : List PV → AH → Prop} (I : Nat → List PV → AH → Prop) (h0 : I 0 [] H)
    (hc : ∀ i acc H, i ≤ items.length → I i acc H → chk H)
    (step : ∀ i p acc H K, items[i]? = some p → I i acc H → (∀ v H', I (i + 1) (acc ++ [v]) H' → K v H') → B p H K)
    (fin : ∀ acc H, I items.length acc H → Q acc H) : awComp B chk items H [] Q := by
  have main : ∀ (l : List PV) (i : Nat) (acc : List PV) (H : AH), items.drop i = l → i ≤ items.length → I i acc H → awComp B chk l H acc Q := by
    intro l
    induction l with
    | nil =>
      intro i acc H hd hi h
      have : items.length ≤ i := List.drop_eq_nil_iff.mp hd
      have e : i = items.length := Nat.le_antisymm hi this
      exact ⟨hc i acc H hi h, fin acc H (e ▸ h)⟩
    | cons p r ih =>
      intro i acc H hd hi h
      have hlt : i < items.length := by
        rcases Nat.lt_or_ge i items.length with q | q
        · exact q
        · rw [List.drop_eq_nil_of_le q] at hd; cases hd
      rw [List.drop_eq_getElem_cons hlt] at hd
      injection hd with h1 h2
      exact ⟨hc i acc H hi h, step i p acc H _ (by rw [List.getElem?_eq_getElem hlt, h1]) h fun v H' h' => ih (i + 1) _ H' h2 hlt h'⟩
  exact main items 0 [] H List.drop_zero (Nat.zero_le _) h0
/-- a comprehension whose elements change nothing -/
theorem compF {B : PV → AH → (PV → AH → Prop) → Prop} {chk : AH → Prop} {items : List PV} {H : AH} {Q : List PV → AH → Prop} (f : Nat → PV → PV) (hc : chk H)
    (step : ∀ i p K, items[i]? = some p → K (f i p) H → B p H K) (fin : Q (items.mapIdx f) H) : awComp B chk items H [] Q := by
  refine compI (I := fun i acc H' => H' = H ∧ acc = (items.take i).mapIdx f) ⟨rfl, by simp⟩ (fun i acc H' _ h => h.1 ▸ hc) (fun i p acc H' K hp ⟨e1, e2⟩ k => ?_) (fun acc H' ⟨e1, e2⟩ => ?_)
  · subst e1 e2
    refine step i p K hp (k _ _ ⟨rfl, ?_⟩)
    rw [List.take_add_one, hp, List.mapIdx_append]
    have hi : i < items.length := (List.getElem?_eq_some_iff.mp hp).1
    simp [Nat.min_eq_left (Nat.le_of_lt hi)]
  · subst e1 e2
    rw [List.take_length]; exact fin

/-- a row of the table -/
inductive Row where
  | prim (n : Int)
  | cls (t : Int) (as : List Int)
  | vlu (t : Int) (as : List Int)
  | arr (k : Int)
  | byr (k : Int)
  | var (i : Int)
  | mvar (i : Int)
  | box (k : Int)
  | ror (k : Int)
  | ftn (o m : Int) (as : List Int)
  | raw (k : Int)

noncomputable def iTp (l : List Int) : PV := .tup (l.map .int)
noncomputable def Row.pv : Row → List PV
  | .prim n => [.int 1, .int n]
  | .cls t as => [.int 2, .int t, iTp as]
  | .vlu t as => [.int 3, .int t, iTp as]
  | .arr k => [.int 4, .int k]
  | .byr k => [.int 5, .int k]
  | .var i => [.int 6, .int i]
  | .mvar i => [.int 7, .int i]
  | .box k => [.int 8, .int k]
  | .ror k => [.int 9, .int k]
  | .ftn o m as => [.int 10, .int o, .int m, iTp as]
  | .raw k => [.int 11, .int k]
noncomputable def Row.sort : Row → Int
  | .prim _ => 1 | .cls .. => 2 | .vlu .. => 3 | .arr _ => 4 | .byr _ => 5 | .var _ => 6 | .mvar _ => 7 | .box _ => 8 | .ror _ => 9 | .ftn .. => 10 | .raw _ => 11
noncomputable def Row.inner : Row → List Int
  | .prim _ => [] | .cls _ as => as | .vlu _ as => as | .arr k => [k] | .byr k => [k] | .var _ => [] | .mvar _ => [] | .box k => [k] | .ror k => [k] | .ftn o _ as => o :: as | .raw k => [k]
noncomputable def Row.lev (r : Row) : Int := if r.sort = 2 ∨ r.sort = 3 ∨ r.sort = 4 then 1 else 0

noncomputable def unI : PV → Int
  | .int i => i
  | _ => 0
noncomputable def unT : PV → List Int
  | .tup l => l.map unI
  | _ => []
noncomputable def Row.of (l : List PV) : Row :=
  let s := unI (l.getD 0 .none); let a := l.getD 1 .none; let b := l.getD 2 .none
  if s = 1 then .prim (unI a) else if s = 2 then .cls (unI a) (unT b) else if s = 3 then .vlu (unI a) (unT b) else if s = 4 then .arr (unI a) else if s = 5 then .byr (unI a) else if s = 6 then .var (unI a) else if s = 7 then .mvar (unI a)
  else if s = 8 then .box (unI a) else if s = 9 then .ror (unI a) else if s = 10 then .ftn (unI a) (unI b) (unT (l.getD 3 .none)) else .raw (unI a)
theorem unT_iTp (l : List Int) : unT (iTp l) = l := by
  show (l.map PV.int).map unI = l
  rw [List.map_map]
  exact List.map_id'' (fun _ => rfl) l
theorem Row.of_pv (r : Row) : Row.of r.pv = r := by
  cases r with
  | cls t as => exact congrArg (Row.cls t) (unT_iTp as)
  | vlu t as => exact congrArg (Row.vlu t) (unT_iTp as)
  | ftn o m as => exact congrArg (Row.ftn o m) (unT_iTp as)
  | _ => rfl
theorem Row.pv_inj {a b : Row} (h : a.pv = b.pv) : a = b := by rw [← Row.of_pv a, h, Row.of_pv]
/-- what a call gives, taken in: no motive over the goal -/
theorem elA {H : AH} {x : PV} {Q : PV → AH → Prop} (h : Q x H) : ∀ p H', (H' = H ∧ p = x) → Q p H' := by rintro _ _ ⟨rfl, rfl⟩; exact h
theorem elB {x : PV} {R : AH → Prop} {Q : PV → AH → Prop} (h : ∀ H', R H' → Q x H') : ∀ p H', (p = x ∧ R H') → Q p H' := by rintro _ H' ⟨rfl, r⟩; exact h H' r
theorem and2 {A B G : Prop} (h : A ∧ B) (k : A → B → G) : G := k h.1 h.2
theorem ex1 {α : Type} {A : α → Prop} {G : Prop} (h : ∃ x, A x) (k : ∀ x, A x → G) : G := let ⟨x, a⟩ := h; k x a
theorem ex2 {α : Type} {A B : α → Prop} {G : Prop} (h : ∃ x, A x ∧ B x) (k : ∀ x, A x → B x → G) : G := let ⟨x, a, b⟩ := h; k x a b
theorem ex3 {α : Type} {A B D : α → Prop} {G : Prop} (h : ∃ x, A x ∧ B x ∧ D x) (k : ∀ x, A x → B x → D x → G) : G := let ⟨x, a, b, c⟩ := h; k x a b c
theorem ex4 {α : Type} {A B D E : α → Prop} {G : Prop} (h : ∃ x, A x ∧ B x ∧ D x ∧ E x) (k : ∀ x, A x → B x → D x → E x → G) : G := let ⟨x, a, b, c, d⟩ := h; k x a b c d
/-- by places -/
theorem sub_at {α : Type} {l' : List α} (is : List Nat) {l : List α} (e : is.filterMap (fun i => l'[i]?) = l) : ∀ b ∈ l, b ∈ l' := fun b hb => by
  subst e; obtain ⟨i, _, h⟩ := List.mem_filterMap.mp hb; exact List.mem_of_getElem? h
theorem mem_at {α : Type} {l : List α} {b : α} (i : Nat) (e : l[i]? = some b) : b ∈ l := List.mem_of_getElem? e
theorem al_nil {α : Type} {P : α → Prop} : ∀ b ∈ ([] : List α), P b := fun _ h => (List.not_mem_nil h).elim
theorem al_cons {α : Type} {P : α → Prop} {x : α} {l : List α} (h : P x) (t : ∀ b ∈ l, P b) : ∀ b ∈ x :: l, P b := fun b hb => (List.mem_cons.mp hb).elim (fun e => e ▸ h) (t b)
theorem sing {α : Type} {P : α → Prop} {x : α} (h : P x) : ∀ b ∈ [x], P b := al_cons h al_nil
theorem nil_out {α : Type} {b : α} : b ∉ ([] : List α) := List.not_mem_nil
theorem out_cons {α : Type} {b x : α} {l : List α} (h : b ≠ x) (t : b ∉ l) : b ∉ x :: l := fun q => (List.mem_cons.mp q).elim h t
theorem out_at {α : Type} {b : α} {l l' : List α} (is : List Nat) (l2 : List α) (e : is.filterMap (fun i => l'[i]?) ++ l2 = l) (h : b ∉ l') (h2 : b ∉ l2) : b ∉ l := fun q => by
  subst e; exact (List.mem_append.mp q).elim (fun q => h (sub_at is rfl b q)) h2
theorem out_sing {α : Type} {b x : α} (h : b ≠ x) : b ∉ [x] := fun q => h (List.mem_singleton.mp q)
/-- lists of a known length -/
theorem vk0 {P : List Value → Prop} (h : P []) : ∀ vs : List Value, vs.length = 0 → P vs := fun vs e => List.length_eq_zero_iff.mp e ▸ h
theorem vkS {P : List Value → Prop} {n : Nat} (h : ∀ a, ∀ r : List Value, r.length = n → P (a :: r)) : ∀ vs : List Value, vs.length = n + 1 → P vs := fun vs e => by
  obtain ⟨a, r, rfl⟩ := List.exists_cons_of_length_eq_add_one e
  exact h a r (Nat.succ.inj e)
theorem vk1 {P : List Value → Prop} (h : ∀ a0, P [a0]) : ∀ vs : List Value, vs.length = 1 → P vs := vkS fun a => vk0 (h a)
theorem vk2 {P : List Value → Prop} (h : ∀ a0 a1, P [a0, a1]) : ∀ vs : List Value, vs.length = 2 → P vs := vkS fun a => vk1 (h a)
theorem vk3 {P : List Value → Prop} (h : ∀ a0 a1 a2, P [a0, a1, a2]) : ∀ vs : List Value, vs.length = 3 → P vs := vkS fun a => vk2 (h a)
theorem vk4 {P : List Value → Prop} (h : ∀ a0 a1 a2 a3, P [a0, a1, a2, a3]) : ∀ vs : List Value, vs.length = 4 → P vs := vkS fun a => vk3 (h a)
theorem vk5 {P : List Value → Prop} (h : ∀ a0 a1 a2 a3 a4, P [a0, a1, a2, a3, a4]) : ∀ vs : List Value, vs.length = 5 → P vs := vkS fun a => vk4 (h a)
theorem vk6 {P : List Value → Prop} (h : ∀ a0 a1 a2 a3 a4 a5, P [a0, a1, a2, a3, a4, a5]) : ∀ vs : List Value, vs.length = 6 → P vs := vkS fun a => vk5 (h a)
end
section
open PySem PySem.W PySem.Calls PyProof.Rows
open scoped Classical

structure KA where
  (d r i p w o : Addr)
structure Tab where
  rows : List Row
  dep : List Int
  wei : List Int
  opn : List Int

noncomputable def ixOf (rows : List Row) : List PV → Option PV := fun ks => (rows.findIdx? fun r => decide (r.pv = ks)).map fun (i : Nat) => .int i

structure KN (C : Ctx) (H : AH) (a : Addr) (A : KA) : Prop where
  inst : H a = some (.inst C.KT A.d)
  ns : ∃ fs j, H A.d = some (.ns fs j) ∧ fs (Str.ofString "rows") = some (.val (.ref A.r)) ∧ fs (Str.ofString "index") = some (.val (.ref A.i)) ∧ fs (Str.ofString "depths") = some (.val (.ref A.p)) ∧
    fs (Str.ofString "weights") = some (.val (.ref A.w)) ∧ fs (Str.ofString "opens") = some (.val (.ref A.o)) ∧ fs (Str.ofString "row") = none ∧ fs (Str.ofString "put") = none
structure KT (C : Ctx) (H : AH) (a : Addr) (A : KA) (T : Tab) : Prop extends KN C H a A where
  rows : H A.r = some (.list (T.rows.map fun x => .tup x.pv))
  ix : ∃ j, H A.i = some (.tdict (ixOf T.rows) j) ∧ j ≤ T.rows.length
  dep : H A.p = some (.list (T.dep.map .int))
  wei : H A.w = some (.list (T.wei.map .int))
  opn : H A.o = some (.list (T.opn.map .int))
  apart : A.r ≠ A.p ∧ A.r ≠ A.w ∧ A.r ≠ A.o ∧ A.p ≠ A.w ∧ A.p ≠ A.o ∧ A.w ≠ A.o
theorem KN.set {C : Ctx} {H : AH} {a : Addr} {A : KA} (K : KN C H a A) {b : Addr} {o : AObj} (h1 : a ≠ b) (h2 : A.d ≠ b) : KN C (H.set b o) a A := by
  obtain ⟨fs, j, e, r⟩ := K.ns
  refine ⟨?_, fs, j, ?_, r⟩
  · unfold AH.set; rw [if_neg h1]; exact K.inst
  · unfold AH.set; rw [if_neg h2]; exact e

noncomputable def Same (S : List Addr) (H H' : AH) : Prop := ∀ b o, H b = some o → b ∉ S → H' b = some o
theorem Same.out {S : List Addr} {H H' : AH} {b : Addr} (s : Same S H H') (e : H' b = none) (n : b ∉ S) : H b = none := by
  cases q : H b with
  | none => rfl
  | some o => rw [s b o q n] at e; cases e
theorem Same.refl (S : List Addr) (H : AH) : Same S H H := fun _ _ e _ => e
theorem Same.trans {S : List Addr} {H H' H'' : AH} (x : Same S H H') (y : Same S H' H'') : Same S H H'' := fun b o e n => y b o (x b o e n) n
theorem Same.mono {S S' : List Addr} {H H' : AH} (x : Same S H H') (k : ∀ a ∈ S, a ∈ S') : Same S' H H' := fun b o e n => x b o e fun q => n (k b q)
theorem Same.fresh {H : AH} {a : Addr} {o : AObj} (h : H a = none) : Same [] H (H.set a o) := fun b o' e _ => hset_ne (by rintro rfl; rw [h] at e; cases e) e
theorem Same.set {H : AH} {a : Addr} {o : AObj} : Same [a] H (H.set a o) := fun b o' e n => hset_ne (fun q => n (List.mem_singleton.mpr q)) e

theorem KT.same {C : Ctx} {H H' : AH} {a : Addr} {A : KA} {T : Tab} {S : List Addr} (K : KT C H a A T) (x : Same S H H') (h : ∀ b ∈ [a, A.d, A.r, A.i, A.p, A.w, A.o], b ∉ S) : KT C H' a A T := by
  obtain ⟨fs, j, e, r⟩ := K.ns
  obtain ⟨j', e', r'⟩ := K.ix
  exact ⟨⟨x _ _ K.inst (h _ (mem_at 0 rfl)), ⟨fs, j, x _ _ e (h _ (mem_at 1 rfl)), r⟩⟩, x _ _ K.rows (h _ (mem_at 2 rfl)), ⟨j', x _ _ e' (h _ (mem_at 3 rfl)), r'⟩, x _ _ K.dep (h _ (mem_at 4 rfl)), x _ _ K.wei (h _ (mem_at 5 rfl)), x _ _ K.opn (h _ (mem_at 6 rfl)), K.apart⟩

section
variable {C : Ctx} {p : Params} {n : Nat} {H : AH} {Q : PV → AH → Prop} {a : Addr} {A : KA} {T : Tab}
theorem our_attr (ho : Our C p) {x : String} (h : x ∈ ["rows", "index", "depths", "weights", "opens"]) : Str.ofString x ∈ C.attrs := by
  rw [ho.attrs]; exact List.mem_map_of_mem h
theorem gRows (ho : Our C p) (K : KN C H a A) (q : Q (.val (.ref A.r)) H) : awAttr C (.val (.ref a)) (Str.ofString "rows") H Q := by
  obtain ⟨fs, j, e, h1, h2, h3, h4, h5, _⟩ := K.ns; exact gA K.inst (our_attr ho (mem_at 0 rfl)) e h1 q
theorem gIndex (ho : Our C p) (K : KN C H a A) (q : Q (.val (.ref A.i)) H) : awAttr C (.val (.ref a)) (Str.ofString "index") H Q := by
  obtain ⟨fs, j, e, h1, h2, h3, h4, h5, _⟩ := K.ns; exact gA K.inst (our_attr ho (mem_at 1 rfl)) e h2 q
theorem gDepths (ho : Our C p) (K : KN C H a A) (q : Q (.val (.ref A.p)) H) : awAttr C (.val (.ref a)) (Str.ofString "depths") H Q := by
  obtain ⟨fs, j, e, h1, h2, h3, h4, h5, _⟩ := K.ns; exact gA K.inst (our_attr ho (mem_at 2 rfl)) e h3 q
theorem gWeights (ho : Our C p) (K : KN C H a A) (q : Q (.val (.ref A.w)) H) : awAttr C (.val (.ref a)) (Str.ofString "weights") H Q := by
  obtain ⟨fs, j, e, h1, h2, h3, h4, h5, _⟩ := K.ns; exact gA K.inst (our_attr ho (mem_at 3 rfl)) e h4 q
theorem gOpens (ho : Our C p) (K : KN C H a A) (q : Q (.val (.ref A.o)) H) : awAttr C (.val (.ref a)) (Str.ofString "opens") H Q := by
  obtain ⟨fs, j, e, h1, h2, h3, h4, h5, _⟩ := K.ns; exact gA K.inst (our_attr ho (mem_at 4 rfl)) e h5 q
theorem mRow (ho : Our C p) (K : KN C H a A) {k : Mid → Prop} (q : k (.own 69 (.val (.ref a)))) : awGetM C (Str.ofString "row") (.val (.ref a)) H k := by
  obtain ⟨fs, j, e, h1, h2, h3, h4, h5, h6, h7⟩ := K.ns
  exact mOwn K.inst e h6 (by rw [ho.meth]; unfold ourMeth; simp [str_eq]) (by rw [ho.fn]; rfl) q
theorem mPut (ho : Our C p) (K : KN C H a A) {k : Mid → Prop} (q : k (.own 76 (.val (.ref a)))) : awGetM C (Str.ofString "put") (.val (.ref a)) H k := by
  obtain ⟨fs, j, e, h1, h2, h3, h4, h5, h6, h7⟩ := K.ns
  exact mOwn K.inst e h7 (by rw [ho.meth]; unfold ourMeth; simp [str_eq]) (by rw [ho.fn]; rfl) q

theorem exAug {j : Int} {X : Int → Prop} (q : X j) : ∃ j', PV.int j = .int j' ∧ X j' := ⟨j, rfl, q⟩
theorem clB {b : String} {X : Prop} (x : X) : awCallee C (.val (.builtin b)) ∧ X := ⟨trivial, x⟩
theorem clT {b : String} {X : Prop} (x : X) : awCallee C (.val (.type b)) ∧ X := ⟨trivial, x⟩
theorem clF (ho : Our C p) {f : Nat} {X : Prop} (h : f ∈ fnList) (x : X) : awCallee C (.val (.ref f)) ∧ X := ⟨.inl (by rw [ho.fn]; exact fn_some h), x⟩
theorem clK (ho : Our C p) {X : Prop} (x : X) : awCallee C (.val (.ref 79)) ∧ X := ⟨.inr ho.kt.symm, x⟩
theorem fOur (ho : Our C p) {f : Nat} {args : List PV} (h : f ∈ fnList) (q : CallP C n (.ref f) args H Q) : awCall C n (.val (.ref f)) args H Q := fDef (.inl (by rw [ho.fn]; exact fn_some h)) q
theorem fNew (ho : Our C p) {args : List PV} (q : CallP C n (.ref 79) args H Q) : awCall C n (.val (.ref 79)) args H Q := fDef (.inr ho.kt.symm) q

/-- items of tuples and lists, at a known place -/
theorem itemAt_nat {l : List PV} {k : Nat} {q : PV} (h : l[k]? = some q) : itemAt l (k : Int) = some q := by
  unfold itemAt; rw [if_pos (Int.natCast_nonneg k)]; simpa using h
theorem itemAt_of {l : List PV} {k : Int} {q : PV} (h0 : 0 ≤ k) (h : l[k.toNat]? = some q) : itemAt l k = some q := by
  unfold itemAt; rw [if_pos h0]; exact h
end

theorem tup_key {r : Row} (h : r.inner.length ≤ 100) : keyD 3 (.tup r.pv) := by
  have hl : ∀ (l : List Int), keyD 2 (iTp l) := fun l => by
    unfold iTp keyD
    intro x hx
    obtain ⟨y, _, rfl⟩ := List.mem_map.mp hx
    simp [keyD]
  cases r <;> simp [Row.pv, keyD, hl]
end
section
open PySem PySem.W PySem.Calls PyProof.Rows
open scoped Classical

/-- what an expression is, without a step of the heap -/
structure EV (C : Ctx) (n : Nat) (sc : Scope) (m : Loc) (H : AH) (e : PySem.Expr) (v : PV) : Prop where
  use : ∀ Q : PV → AH → Prop, Q v H → awE C n e sc m H Q
structure AV (C : Ctx) (n : Nat) (sc : Scope) (m : Loc) (H : AH) (es : List PySem.Expr) (vs : List PV) : Prop where
  use : ∀ Q : List PV → AH → Prop, Q vs H → awEs C n es sc m H Q
structure TV (C : Ctx) (n : Nat) (sc : Scope) (m : Loc) (H : AH) (e : PySem.Expr) (b : Bool) : Prop where
  use : ∀ Q : Bool → AH → Prop, Q b H → awT C n e sc m H Q
structure TsV (C : Ctx) (n : Nat) (sc : Scope) (m : Loc) (H : AH) (op : BoolOp) (es : List PySem.Expr) (b : Bool) : Prop where
  use : ∀ Q : Bool → AH → Prop, Q b H → awTs C n op es sc m H Q
section
variable {C : Ctx} {n : Nat} {sc : Scope} {H : AH} {l : List (String × PV)}
theorem evN {x : String} {pos} {p : PV} (hm : lkS l x = some p) (hd : (x = "__debug__") = False) : EV C n sc (L l) H (.Name (Str.ofString x) pos) p := ⟨fun _ q => iN hm hd (nmS q)⟩
theorem evG {p : Params} {sc₀ : Scope} (ho : Our C p) (hsc : sc = sc₀) {x : String} {pos} {q : PV} (hm : lkS l x = none) (hd : (x = "__debug__") = False) (hs : sc₀.names.lookup (Str.ofString x) = some .globalImplicit) (hg : lkS glist x = some q) : EV C n sc (L l) H (.Name (Str.ofString x) pos) q :=
  ⟨fun _ k => iN hm hd (nmN ho hsc hs hg k)⟩
end
section
variable {C : Ctx} {n : Nat} {sc : Scope} {m : Loc} {H : AH}
theorem evI {i : Int} {k pos} : EV C n sc m H (.Constant (.int i) k pos) (.int i) := ⟨fun _ q => awConst.int q⟩
theorem evS {x : PySem.Str} {k pos} : EV C n sc m H (.Constant (.str x) k pos) (.str x) := ⟨fun _ q => awConst.str q⟩
theorem evB {b : Bool} {k pos} : EV C n sc m H (.Constant (.bool b) k pos) (.bool b) := ⟨fun _ q => awConst.bool q⟩
theorem evZ {k pos} : EV C n sc m H (.Constant .none k pos) .none := ⟨fun _ q => awConst.none q⟩
theorem evNeg {i : Int} {k pos pos2} : EV C n sc m H (.UnaryOp .USub (.Constant (.int i) k pos) pos2) (.int (-i)) := ⟨fun _ q => awConst.int (awUn.neg q)⟩
theorem evAdd {a b : PySem.Expr} {pos} {x y : Int} (ha : EV C n sc m H a (.int x)) (hb : EV C n sc m H b (.int y)) : EV C n sc m H (.BinOp a .Add b pos) (.int (x + y)) := ⟨fun _ q => iBin (ha.use _ (hb.use _ (bAI q)))⟩
theorem evSub {a b : PySem.Expr} {pos} {x y : Int} (ha : EV C n sc m H a (.int x)) (hb : EV C n sc m H b (.int y)) : EV C n sc m H (.BinOp a .Sub b pos) (.int (x - y)) := ⟨fun _ q => iBin (ha.use _ (hb.use _ (bSI q)))⟩
theorem av0 : AV C n sc m H [] [] := ⟨fun _ q => q⟩
theorem avC {e : PySem.Expr} {r : List PySem.Expr} {v : PV} {vs : List PV} (hs : isStar e = false) (he : EV C n sc m H e v) (hr : AV C n sc m H r vs) : AV C n sc m H (e :: r) (v :: vs) := ⟨fun _ q => esC hs (he.use _ (hr.use _ q))⟩
theorem evTup {es : List PySem.Expr} {k pos} {vs : List PV} (h : AV C n sc m H es vs) (hl : vs.length ≤ 1000) : EV C n sc m H (.Tuple es k pos) (.tup vs) := ⟨fun _ q => iTup (h.use _ ⟨hl, q⟩)⟩
-- tests
section
variable {a b : PySem.Expr} {pos} {x y : Int}
theorem tvT (ha : EV C n sc m H a (.int x)) (hb : EV C n sc m H b (.int y)) (hm : behindInMarks .Eq b = false) (h : x = y) : TV C n sc m H (.Compare a [.Eq] [b] pos) true := ⟨fun _ q => tCmp hm (ha.use _ (hb.use _ (cEI (trB (by rw [decide_eq_true h]; exact q)))))⟩
theorem tvF (ha : EV C n sc m H a (.int x)) (hb : EV C n sc m H b (.int y)) (hm : behindInMarks .Eq b = false) (h : ¬ x = y) : TV C n sc m H (.Compare a [.Eq] [b] pos) false := ⟨fun _ q => tCmp hm (ha.use _ (hb.use _ (cEI (trB (by rw [decide_eq_false h]; exact q)))))⟩
theorem tnT (ha : EV C n sc m H a (.int x)) (hb : EV C n sc m H b (.int y)) (hm : behindInMarks .NotEq b = false) (h : ¬ x = y) : TV C n sc m H (.Compare a [.NotEq] [b] pos) true := ⟨fun _ q => tCmp hm (ha.use _ (hb.use _ (cNI (trB (by rw [decide_eq_true h]; exact q)))))⟩
theorem tnF (ha : EV C n sc m H a (.int x)) (hb : EV C n sc m H b (.int y)) (hm : behindInMarks .NotEq b = false) (h : x = y) : TV C n sc m H (.Compare a [.NotEq] [b] pos) false := ⟨fun _ q => tCmp hm (ha.use _ (hb.use _ (cNI (trB (by rw [decide_eq_false (not_not_intro h)]; exact q)))))⟩
theorem tlT (ha : EV C n sc m H a (.int x)) (hb : EV C n sc m H b (.int y)) (hm : behindInMarks .Lt b = false) (h : x < y) : TV C n sc m H (.Compare a [.Lt] [b] pos) true := ⟨fun _ q => tCmp hm (ha.use _ (hb.use _ (cLI (trB (by rw [decide_eq_true h]; exact q)))))⟩
theorem tlF (ha : EV C n sc m H a (.int x)) (hb : EV C n sc m H b (.int y)) (hm : behindInMarks .Lt b = false) (h : ¬ x < y) : TV C n sc m H (.Compare a [.Lt] [b] pos) false := ⟨fun _ q => tCmp hm (ha.use _ (hb.use _ (cLI (trB (by rw [decide_eq_false h]; exact q)))))⟩
theorem tgT (ha : EV C n sc m H a (.int x)) (hb : EV C n sc m H b (.int y)) (hm : behindInMarks .Gt b = false) (h : y < x) : TV C n sc m H (.Compare a [.Gt] [b] pos) true := ⟨fun _ q => tCmp hm (ha.use _ (hb.use _ (cGI (trB (by rw [decide_eq_true h]; exact q)))))⟩
theorem tgF (ha : EV C n sc m H a (.int x)) (hb : EV C n sc m H b (.int y)) (hm : behindInMarks .Gt b = false) (h : ¬ y < x) : TV C n sc m H (.Compare a [.Gt] [b] pos) false := ⟨fun _ q => tCmp hm (ha.use _ (hb.use _ (cGI (trB (by rw [decide_eq_false h]; exact q)))))⟩
end
theorem tvOr {es : List PySem.Expr} {pos} {b : Bool} (h : TsV C n sc m H .Or es b) : TV C n sc m H (.BoolOp .Or es pos) b := ⟨fun _ q => tBop (h.use _ q)⟩
theorem tvAnd {es : List PySem.Expr} {pos} {b : Bool} (h : TsV C n sc m H .And es b) : TV C n sc m H (.BoolOp .And es pos) b := ⟨fun _ q => tBop (h.use _ q)⟩
theorem to0 : TsV C n sc m H .Or [] false := ⟨fun _ q => q⟩
theorem toT {e : PySem.Expr} {r : List PySem.Expr} (h : TV C n sc m H e true) : TsV C n sc m H .Or (e :: r) true := ⟨fun _ q => tsO (h.use _ (spT q))⟩
theorem toF {e : PySem.Expr} {r : List PySem.Expr} {b : Bool} (h : TV C n sc m H e false) (h2 : TsV C n sc m H .Or r b) : TsV C n sc m H .Or (e :: r) b := ⟨fun _ q => tsO (h.use _ (spF (h2.use _ q)))⟩
theorem ta0 : TsV C n sc m H .And [] true := ⟨fun _ q => q⟩
theorem taT {e : PySem.Expr} {r : List PySem.Expr} {b : Bool} (h : TV C n sc m H e true) (h2 : TsV C n sc m H .And r b) : TsV C n sc m H .And (e :: r) b := ⟨fun _ q => tsA (h.use _ (spT (h2.use _ q)))⟩
theorem taF {e : PySem.Expr} {r : List PySem.Expr} (h : TV C n sc m H e false) : TsV C n sc m H .And (e :: r) false := ⟨fun _ q => tsA (h.use _ (spF q))⟩
section
variable {Q : Fl → Loc → AH → Prop}
/-- the way taken -/
noncomputable def ifG (C : Ctx) (n : Nat) (sc : Scope) (m : Loc) (H : AH) (Q : Fl → Loc → AH → Prop) (b o r : List PySem.Stmt) (c : Bool) : Prop := awSs C n (cond c b o) sc m H (seqQ C n r sc Q)
theorem ifV {t : PySem.Expr} {b o r : List PySem.Stmt} {pos} {c : Bool} (h : TV C n sc m H t c) (q : ifG C n sc m H Q b o r c) : awSs C n (.If t b o pos :: r) sc m H Q :=
  ssC (sIf (h.use _ ⟨fun e => by subst e; exact q, fun e => by subst e; exact q⟩))
theorem igT {b o r : List PySem.Stmt} (q : awSs C n b sc m H (seqQ C n r sc Q)) : ifG C n sc m H Q b o r true := q
theorem igF {b o r : List PySem.Stmt} (q : awSs C n o sc m H (seqQ C n r sc Q)) : ifG C n sc m H Q b o r false := q
theorem igN {b r : List PySem.Stmt} (q : awSs C n r sc m H Q) : ifG C n sc m H Q b [] r false := ⟨q⟩
theorem retV {e : PySem.Expr} {pos} {v : PV} {r : List PySem.Stmt} (h : EV C n sc m H e v) (q : Q (.ret v) m H) : awSs C n (.Return (some e) pos :: r) sc m H Q := ssC (sRet (h.use _ (seqR q)))
end
section
variable {Q : PV → AH → Prop}
theorem calG {p : Params} (ho : Our C p) {f as pos} {k : Nat} {vs : List PV} (hs : (!isAttr f && noStar as) = true) (hf : EV C n sc m H f (.val (.ref k))) (hk : k ∈ fnList) (ha : AV C n sc m H as vs) (q : CallP C n (.ref k) vs H Q) : awE C n (.Call f as [] pos) sc m H Q :=
  iCal hs (hf.use _ (clF ho hk (ha.use _ (fOur ho hk q))))
theorem calN {p : Params} (ho : Our C p) {f as pos} {vs : List PV} (hs : (!isAttr f && noStar as) = true) (hf : EV C n sc m H f (.val (.ref 79))) (ha : AV C n sc m H as vs) (q : CallP C n (.ref 79) vs H Q) : awE C n (.Call f as [] pos) sc m H Q :=
  iCal hs (hf.use _ (clK ho (ha.use _ (fNew ho q))))
theorem calB {f as pos} {b : String} {vs : List PV} (hs : (!isAttr f && noStar as) = true) (hf : EV C n sc m H f (.val (.builtin b))) (ha : AV C n sc m H as vs) (q : awCall C n (.val (.builtin b)) vs H Q) : awE C n (.Call f as [] pos) sc m H Q :=
  iCal hs (hf.use _ (clB (ha.use _ q)))
theorem calT {f as pos} {b : String} {vs : List PV} (hs : (!isAttr f && noStar as) = true) (hf : EV C n sc m H f (.val (.type b))) (ha : AV C n sc m H as vs) (q : awCall C n (.val (.type b)) vs H Q) : awE C n (.Call f as [] pos) sc m H Q :=
  iCal hs (hf.use _ (clT (ha.use _ q)))
theorem subV {a i : PySem.Expr} {pos} {v k : PV} (ha : EV C n sc m H a v) (hs : isSlice i = false) (hi : EV C n sc m H i k) (q : awItem C v k H Q) : awE C n (.Subscript a i pos) sc m H Q := iSub hs (ha.use _ (hi.use _ q))
theorem subR {a i : PySem.Expr} {pos} {v : PV} (ha : EV C n sc m H a v) (hs : isSlice i = false) (q : awE C n i sc m H fun k H1 => awItem C v k H1 Q) : awE C n (.Subscript a i pos) sc m H Q := iSub hs (ha.use _ q)
theorem binV {a b : PySem.Expr} {op pos} {v w : PV} (ha : EV C n sc m H a v) (hb : EV C n sc m H b w) (q : awBin op v w H Q) : awE C n (.BinOp a op b pos) sc m H Q := iBin (ha.use _ (hb.use _ q))
theorem cmpV {a b : PySem.Expr} {op pos} {v w : PV} (hm : behindInMarks op b = false) (ha : EV C n sc m H a v) (hb : EV C n sc m H b w) (q : awCmp C op v w H Q) : awE C n (.Compare a [op] [b] pos) sc m H Q := iCmp hm (ha.use _ (hb.use _ q))
theorem tupV {es : List PySem.Expr} {k pos} {vs : List PV} (h : AV C n sc m H es vs) (hl : vs.length ≤ 1000) (q : Q (.tup vs) H) : awE C n (.Tuple es k pos) sc m H Q := iTup (h.use _ ⟨hl, q⟩)
theorem metR {o : PySem.Expr} {x apos pos} {as : List PySem.Expr} {v : PV} (h : (baseOk o && decide (apos.endLine = pos.line) && decide (as.length < 30) && noStar as) = true)
    (ho : EV C n sc m H o v) (q : awGetM C x v H fun mid => awEs C n as sc m H fun vs H2 => awRunM C n mid vs H2 Q) : awE C n (.Call (.Attribute o x apos) as [] pos) sc m H Q := iMet h (ho.use _ q)
theorem attV {o : PySem.Expr} {x pos} {v : PV} (hb : baseOk o = true) (ho : EV C n sc m H o v) (q : awAttr C v x H Q) : awE C n (.Attribute o x pos) sc m H Q := iAtt hb (ho.use _ q)
end
theorem tCmV {Q : Bool → AH → Prop} {a b : PySem.Expr} {op pos} {v w : PV} (hm : behindInMarks op b = false) (ha : EV C n sc m H a v) (hb : EV C n sc m H b w) (q : awCmp C op v w H fun v H3 => awTruth v fun b => Q b H3) : awT C n (.Compare a [op] [b] pos) sc m H Q := tCmp hm (ha.use _ (hb.use _ q))
theorem tEqV {Q : Bool → AH → Prop} {a b : PySem.Expr} {pos} {x y : Int} (hm : behindInMarks .Eq b = false) (ha : EV C n sc m H a (.int x)) (hb : EV C n sc m H b (.int y)) (q : Q (decide (x = y)) H) : awT C n (.Compare a [.Eq] [b] pos) sc m H Q := tCmp hm (ha.use _ (hb.use _ (cEI (trB q))))
theorem teV {Q : Bool → AH → Prop} {t : PySem.Expr} {b : Bool} (h : TV C n sc m H t b) (q : Q b H) : awT C n t sc m H Q := h.use _ q
theorem esV {Q : List PV → AH → Prop} {es : List PySem.Expr} {vs : List PV} (h : AV C n sc m H es vs) (q : Q vs H) : awEs C n es sc m H Q := h.use _ q
end
section
variable {C : Ctx} {n : Nat} {sc sc₀ : Scope} {H : AH} {l l' : List (String × PV)} {Q : Fl → Loc → AH → Prop}
theorem setV {x : String} {xp pos} {v : PySem.Expr} {w : PV} {r : List PySem.Stmt} (hsc : sc = sc₀) (h : (stOkB sc₀ (Str.ofString x) && !isComp v) = true) (hv : EV C n sc (L l) H v w) (hu : upd l x w = l') (q : awSs C n r sc (L l') H Q) :
    awSs C n (.Assign [.Name (Str.ofString x) xp] v pos :: r) sc (L l) H Q := ssC (sSetH hsc h (hv.use _ (seqN hu q)))
end
/-- the end of a block inside another -/
theorem endV {C : Ctx} {n : Nat} {sc : Scope} {m : Loc} {H : AH} {Q : Fl → Loc → AH → Prop} {r : List PySem.Stmt} (q : awSs C n r sc m H Q) : awSs C n [] sc m H (seqQ C n r sc Q) := ⟨q⟩
/-- a name's value over a list with a tail that binds certain names alone -/
theorem lkU {x : String} {p : PV} : ∀ {l : List (String × PV)}, lkS (upd l x p) x = some p
  | [] => by unfold upd lkS; rw [beq_self_eq_true]; rfl
  | (a, q) :: r => by
    by_cases h : a = x
    · subst h; rw [upd_hit]; unfold lkS; rw [beq_self_eq_true]; rfl
    · rw [upd_miss h]; unfold lkS; rw [beq_eq_false_iff_ne.mpr (Ne.symm h)]; exact lkU
theorem lkW {x z : String} {p : PV} {r : Option PV} (e : (x == z) = false) : ∀ {l : List (String × PV)}, lkS l x = r → lkS (upd l z p) x = r
  | [], h => by unfold upd lkS; rw [e]; exact h
  | (a, q) :: l, h => by
    by_cases ha : a = z
    · subst ha; rw [upd_hit]; unfold lkS at h ⊢; rw [e] at h ⊢; exact h
    · rw [upd_miss ha]; unfold lkS at h ⊢
      cases hx : x == a with
      | true => rw [hx] at h; exact h
      | false => rw [hx] at h; exact lkW (l := l) e h
noncomputable def Only (l : List (String × PV)) (ys : List String) : Prop := ∀ x, ys.contains x = false → lkS l x = none
theorem Only.nil {ys : List String} : Only [] ys := fun _ _ => rfl
theorem Only.upd {l : List (String × PV)} {ys : List String} (h : Only l ys) {y : String} {p : PV} (hy : ys.contains y = true) : Only (upd l y p) ys := fun x hx =>
  lkW (beq_eq_false_iff_ne.mpr fun e => by rw [e, hy] at hx; cases hx) (h x hx)
theorem lkN {l : List (String × PV)} {ys : List String} (h : Only l ys) {x : String} (hx : ys.contains x = false) : lkS l x = none := h x hx
theorem iNs {C : Ctx} {n : Nat} {sc : Scope} {H : AH} {l : List (String × PV)} {Q : PV → AH → Prop} {x : String} {pos} {p : PV} (hm : lkS l x = some p) (hd : (x = "__debug__") = False) (q : Q p H) : awE C n (.Name (Str.ofString x) pos) sc (L l) H Q := iN hm hd (nmS q)
theorem iNn {C : Ctx} {n : Nat} {sc : Scope} {H : AH} {l : List (String × PV)} {Q : PV → AH → Prop} {p : Params} {sc₀ : Scope} (ho : Our C p) (hsc : sc = sc₀) {x : String} {pos} {v : PV} (hm : lkS l x = none) (hd : (x = "__debug__") = False)
    (hs : sc₀.names.lookup (Str.ofString x) = some .globalImplicit) (hg : lkS glist x = some v) (q : Q v H) : awE C n (.Name (Str.ofString x) pos) sc (L l) H Q := iN hm hd (nmN ho hsc hs hg q)
end
section
open PySem PySem.W PySem.Calls PyProof.Rows
open scoped Classical

noncomputable def depStep (dep : List Int) (lev : Int) (d x : Int) : Int := if d < dep.getD x.toNat 0 + lev then dep.getD x.toNat 0 + lev else d
noncomputable def depOf (dep : List Int) (r : Row) : Int := r.inner.foldl (depStep dep r.lev) 1
noncomputable def weiStep (wei : List Int) (w x : Int) : Int := w + wei.getD x.toNat 0
noncomputable def weiOf (wei : List Int) (r : Row) : Int := r.inner.foldl (weiStep wei) 1

theorem mapGet {l : List Int} {k : Nat} (h : k < l.length) : (l.map PV.int)[k]? = some (.int (l.getD k 0)) := by
  rw [List.getElem?_map, List.getD_eq_getElem?_getD, List.getElem?_eq_getElem h]; rfl

noncomputable def tids : List Int := [8, 64, 65, 66, 67, 68]
noncomputable def places : List Int := [0, 1, 2]
noncomputable def mids : List Int := [0, 1, 2, 3, 4, 5, 6, 7, 8]
theorem tids_ok : ∀ t ∈ tids, 0 < t ∧ tidPrim t = none := by
  intro t h
  simp only [tids, List.mem_cons, List.not_mem_nil, or_false] at h
  rcases h with rfl | rfl | rfl | rfl | rfl | rfl <;> exact ⟨by decide, rfl⟩
theorem places_ok : ∀ t ∈ places, 0 ≤ t := by decide
theorem mids_ok : ∀ t ∈ mids, 0 ≤ t := by decide
theorem md_all {P : Int → Prop} {k : Nat} (h : ∀ n : Nat, n < k → P n) {x : Int} (h0 : 0 ≤ x) (h1 : x < k) : P x := by
  obtain ⟨n, rfl⟩ := Int.eq_ofNat_of_zero_le h0
  exact h n (Int.ofNat_lt.mp h1)
theorem md_mod {P : Int → Prop} {k : Nat} (hk : 0 < k) (h : ∀ n : Nat, n < k → P n) (x : Int) : P (x % (k : Int)) := md_all h (Int.emod_nonneg x (Int.ofNat_ne_zero.mpr (Nat.ne_of_gt hk))) (Int.emod_lt_of_pos x (Int.ofNat_lt.mpr hk))
theorem md_places (x : Int) : x % 3 ∈ places := md_mod (P := fun y => y ∈ places) (k := 3) (by decide) (by decide) x
theorem md_tids (x : Int) : 64 + x % 5 ∈ tids := md_mod (P := fun y => 64 + y ∈ tids) (k := 5) (by decide) (by decide) x
theorem md_mids (x : Int) : x % 9 ∈ mids := md_mod (P := fun y => y ∈ mids) (k := 9) (by decide) (by decide) x
theorem md_min (x : Int) : min ((13 + x % 4).toNat - 3) (16 - 3) = (10 + x % 4).toNat := md_mod (P := fun y => min ((13 + y).toNat - 3) (16 - 3) = (10 + y).toNat) (k := 4) (by decide) (by decide) x
theorem tids_txt : ∀ t ∈ tids, (Str.ofString "T").length + (Str.ofString (toString t)).length ≤ 16000000 := by decide +kernel
theorem places_rg : ∀ t ∈ places, 0 ≤ t ∧ t < 10 := by decide
theorem mids_rg : ∀ t ∈ mids, 0 ≤ t ∧ t < 10 := by decide
theorem tids_lt : ∀ t ∈ tids, t < 100 := by decide
/-- the numbers of a row -/
noncomputable def Row.Num : Row → Prop
  | .cls t _ => t ∈ tids
  | .vlu t _ => t ∈ tids
  | .var i => i ∈ places
  | .mvar i => i ∈ places
  | .ftn _ m _ => m ∈ mids
  | _ => True

structure Tab.Ok (T : Tab) : Prop where
  ld : T.dep.length = T.rows.length
  lw : T.wei.length = T.rows.length
  lo : T.opn.length = T.rows.length
  nd : ∀ (i j : Nat) r, T.rows[i]? = some r → T.rows[j]? = some r → i = j
  inn : ∀ (k : Nat) r, T.rows[k]? = some r → ∀ x ∈ r.inner, 0 ≤ x ∧ x < k
  wb : ∀ w ∈ T.wei, 1 ≤ w ∧ w ≤ 4096
  pr : ∀ (k : Nat) n, T.rows[k]? = some (.prim n) → n = k ∧ k < 16
  num : ∀ (k : Nat) r, T.rows[k]? = some r → r.Num ∧ r.inner.length ≤ 100
  dw : ∀ (k : Nat) r, T.rows[k]? = some r → T.dep[k]? = some (depOf T.dep r) ∧ T.wei[k]? = some (weiOf T.wei r)

structure Ext (T T' : Tab) : Prop where
  rows : T.rows <+: T'.rows
  dep : T.dep <+: T'.dep
  wei : T.wei <+: T'.wei
theorem Ext.refl (T : Tab) : Ext T T := ⟨List.prefix_rfl, List.prefix_rfl, List.prefix_rfl⟩
theorem Ext.trans {T T' T'' : Tab} (x : Ext T T') (y : Ext T' T'') : Ext T T'' := ⟨x.rows.trans y.rows, x.dep.trans y.dep, x.wei.trans y.wei⟩
theorem prefix_get {α : Type} {l l' : List α} (h : l <+: l') {k : Nat} {x : α} (e : l[k]? = some x) : l'[k]? = some x := by
  obtain ⟨t, rfl⟩ := h
  rw [List.getElem?_append_left (List.getElem?_eq_some_iff.mp e).1]; exact e

theorem getD_app {l : List Int} {x : Int} {y : Int} (h : x.toNat < l.length) : (l ++ [y]).getD x.toNat 0 = l.getD x.toNat 0 := by
  rw [List.getD_eq_getElem?_getD, List.getD_eq_getElem?_getD, List.getElem?_append_left h]

theorem depOf_app {dep : List Int} {y : Int} {r : Row} (h : ∀ x ∈ r.inner, x.toNat < dep.length) : depOf (dep ++ [y]) r = depOf dep r := by
  unfold depOf
  generalize (1 : Int) = d
  revert h
  generalize r.inner = l
  intro h
  induction l generalizing d with
  | nil => rfl
  | cons x l ih =>
    rw [List.foldl_cons, List.foldl_cons, ih _ (fun z hz => h z (by simp [hz]))]
    congr 1
    unfold depStep
    rw [getD_app (h x (by simp))]
theorem weiOf_app {dep : List Int} {y : Int} {r : Row} (h : ∀ x ∈ r.inner, x.toNat < dep.length) : weiOf (dep ++ [y]) r = weiOf dep r := by
  unfold weiOf
  generalize (1 : Int) = d
  revert h
  generalize r.inner = l
  intro h
  induction l generalizing d with
  | nil => rfl
  | cons x l ih =>
    rw [List.foldl_cons, List.foldl_cons, ih _ (fun z hz => h z (by simp [hz]))]
    congr 1
    unfold weiStep
    rw [getD_app (h x (by simp))]

noncomputable def Tab.add (T : Tab) (r : Row) (o : Int) : Tab := ⟨T.rows ++ [r], T.dep ++ [depOf T.dep r], T.wei ++ [weiOf T.wei r], T.opn ++ [o]⟩
theorem Tab.add_ext (T : Tab) (r : Row) (o : Int) : Ext T (T.add r o) := ⟨List.prefix_append .., List.prefix_append .., List.prefix_append ..⟩
theorem Tab.add_len (T : Tab) (r : Row) (o : Int) : (T.add r o).rows.length ≤ T.rows.length + 1 := by unfold Tab.add; rw [List.length_append]; exact Nat.le_refl _
theorem Tab.add_at (T : Tab) (r : Row) (o : Int) : (T.add r o).rows[T.rows.length]? = some r := by simp [Tab.add]
theorem weiOf_pos {wei : List Int} (h : ∀ w ∈ wei, 1 ≤ w ∧ w ≤ 4096) (r : Row) : 1 ≤ weiOf wei r := by
  have main : ∀ (l : List Int) (d : Int), 1 ≤ d → 1 ≤ l.foldl (weiStep wei) d := by
    intro l
    induction l with
    | nil => exact fun d hd => hd
    | cons x l ih =>
      intro d hd
      rw [List.foldl_cons]
      refine ih _ ?_
      unfold weiStep
      rw [List.getD_eq_getElem?_getD]
      cases e : wei[x.toNat]? with
      | none => simp; omega
      | some w => have := h w (List.mem_of_getElem? e); simp; omega
  exact main _ 1 (by decide)
theorem Tab.Ok.add {T : Tab} (h : T.Ok) {r : Row} {o : Int} (hn : ∀ i : Nat, T.rows[i]? ≠ some r) (hin : ∀ x ∈ r.inner, 0 ≤ x ∧ x.toNat < T.rows.length) (hw : weiOf T.wei r ≤ 4096) (hp : ∀ n, r = .prim n → n = T.rows.length ∧ T.rows.length < 16) (hnum : r.Num ∧ r.inner.length ≤ 100) : (T.add r o).Ok := by
  have get : ∀ (k : Nat) q, (T.rows ++ [r])[k]? = some q → T.rows[k]? = some q ∨ (k = T.rows.length ∧ q = r) := fun k q e => by
    rcases Nat.lt_or_ge k T.rows.length with hk | hk
    · rw [List.getElem?_append_left hk] at e; exact .inl e
    · rw [List.getElem?_append_right hk] at e
      have hk0 : k - T.rows.length = 0 := by
        cases hd : k - T.rows.length with
        | zero => rfl
        | succ j => rw [hd] at e; simp at e
      rw [hk0] at e
      simp at e
      exact .inr ⟨by omega, e.symm⟩
  have inOld : ∀ (k : Nat) q, T.rows[k]? = some q → ∀ x ∈ q.inner, x.toNat < T.rows.length := fun k q e x hx => by
    have := h.inn k q e x hx
    have hk := (List.getElem?_eq_some_iff.mp e).1
    omega
  refine ⟨by simp [Tab.add, h.ld], by simp [Tab.add, h.lw], by simp [Tab.add, h.lo], fun i j q hi hj => ?_, fun k q hk x hx => ?_, fun w hw' => ?_, fun k n hk => ?_, fun k q hk => ?_, fun k q hk => ?_⟩
  · rcases get i q hi with hi' | ⟨hi', e1⟩ <;> rcases get j q hj with hj' | ⟨hj', e⟩
    · exact h.nd i j q hi' hj'
    · subst e; exact absurd hi' (hn i)
    · subst e1; exact absurd hj' (hn j)
    · omega
  · rcases get k q hk with hk' | ⟨rfl, rfl⟩
    · exact h.inn k q hk' x hx
    · have := hin x hx; exact ⟨this.1, by omega⟩
  · rcases List.mem_append.mp hw' with hw' | hw'
    · exact h.wb w hw'
    · simp only [List.mem_singleton] at hw'
      subst hw'
      exact ⟨weiOf_pos h.wb r, hw⟩
  · rcases get k _ hk with hk' | ⟨rfl, e⟩
    · exact h.pr k n hk'
    · exact hp n e.symm
  · rcases get k q hk with hk' | ⟨rfl, rfl⟩
    · exact h.num k q hk'
    · exact hnum
  · rcases get k q hk with hk' | ⟨rfl, rfl⟩
    · obtain ⟨d1, d2⟩ := h.dw k q hk'
      have hkl := (List.getElem?_eq_some_iff.mp hk').1
      refine ⟨?_, ?_⟩
      · show (T.dep ++ [_])[k]? = some (depOf (T.dep ++ [_]) q)
        rw [List.getElem?_append_left (by rw [h.ld]; exact hkl), depOf_app (fun x hx => by rw [h.ld]; exact inOld k q hk' x hx)]; exact d1
      · show (T.wei ++ [_])[k]? = some (weiOf (T.wei ++ [_]) q)
        rw [List.getElem?_append_left (by rw [h.lw]; exact hkl), weiOf_app (fun x hx => by rw [h.lw]; exact inOld k q hk' x hx)]; exact d2
    · refine ⟨?_, ?_⟩
      · show (T.dep ++ [_])[T.rows.length]? = some (depOf (T.dep ++ [_]) q)
        rw [depOf_app (fun x hx => by rw [h.ld]; exact (hin x hx).2), ← h.ld]; simp
      · show (T.wei ++ [_])[T.rows.length]? = some (weiOf (T.wei ++ [_]) q)
        rw [weiOf_app (fun x hx => by rw [h.lw]; exact (hin x hx).2), ← h.lw]; simp

theorem ix_cases (rows : List Row) (r : Row) : (∃ i : Nat, ixOf rows r.pv = some (.int i) ∧ rows[i]? = some r) ∨ (ixOf rows r.pv = none ∧ ∀ i : Nat, rows[i]? ≠ some r) := by
  unfold ixOf
  cases e : rows.findIdx? fun q => decide (q.pv = r.pv) with
  | some i =>
    obtain ⟨hi, hp, _⟩ := List.findIdx?_eq_some_iff_getElem.mp e
    refine .inl ⟨i, rfl, ?_⟩
    rw [List.getElem?_eq_getElem hi, Row.pv_inj (of_decide_eq_true hp)]
  | none =>
    refine .inr ⟨rfl, fun i hi => ?_⟩
    have := List.findIdx?_eq_none_iff.mp e r (List.mem_of_getElem? hi)
    simp at this
theorem ix_add {rows : List Row} {r : Row} (h : ixOf rows r.pv = none) : (fun ks => if ks = r.pv then some (PV.int rows.length) else ixOf rows ks) = ixOf (rows ++ [r]) := by
  have hn : rows.findIdx? (fun q => decide (q.pv = r.pv)) = none := by
    unfold ixOf at h
    exact Option.map_eq_none_iff.mp h
  funext ks
  unfold ixOf
  rw [List.findIdx?_append]
  by_cases hk : ks = r.pv
  · subst hk
    rw [if_pos rfl, hn]; simp
  · rw [if_neg hk]
    cases e : rows.findIdx? fun q => decide (q.pv = ks) with
    | some i => simp
    | none => simp [Ne.symm hk]
/-- a row laid into the table's lists, heap by heap -/
structure Put5 (C : Ctx) (H H1 H2 H3 H4 H5 : AH) (a : Addr) (A : KA) (T T' : Tab) (j : Nat) : Prop where
  k1 : KN C H1 a A
  i1 : H1 A.i = some (.tdict (ixOf T.rows) j)
  k2 : KN C H2 a A
  p2 : H2 A.p = some (.list (T.dep.map .int))
  k3 : KN C H3 a A
  w3 : H3 A.w = some (.list (T.wei.map .int))
  k4 : KN C H4 a A
  o4 : H4 A.o = some (.list (T.opn.map .int))
  k5 : KT C H5 a A T'
  s5 : ∀ b o, H b = some o → b ∉ [A.r, A.i, A.p, A.w, A.o] → H5 b = some o
theorem put5 {C : Ctx} {H : AH} {a : Addr} {A : KA} {T : Tab} {r : Row} {o : Int} {j : Nat} (K : KT C H a A T) (hix : H A.i = some (.tdict (ixOf T.rows) j)) (hj : j ≤ T.rows.length) (e : ixOf T.rows r.pv = none) {dv wv : Int} {ps : List PV} (hp : r.pv = ps) (hd : dv = depOf T.dep r) (hw : wv = weiOf T.wei r) :
    Put5 C H (H.set A.r (.list ((T.rows.map fun x => .tup x.pv) ++ [.tup ps])))
      ((H.set A.r (.list ((T.rows.map fun x => .tup x.pv) ++ [.tup ps]))).set A.i (.tdict (fun x => if x = ps then some (.int (T.rows.length : Int)) else ixOf T.rows x) (j + 1)))
      (((H.set A.r (.list ((T.rows.map fun x => .tup x.pv) ++ [.tup ps]))).set A.i (.tdict (fun x => if x = ps then some (.int (T.rows.length : Int)) else ixOf T.rows x) (j + 1))).set A.p (.list (T.dep.map .int ++ [.int dv])))
      ((((H.set A.r (.list ((T.rows.map fun x => .tup x.pv) ++ [.tup ps]))).set A.i (.tdict (fun x => if x = ps then some (.int (T.rows.length : Int)) else ixOf T.rows x) (j + 1))).set A.p (.list (T.dep.map .int ++ [.int dv]))).set A.w (.list (T.wei.map .int ++ [.int wv])))
      (((((H.set A.r (.list ((T.rows.map fun x => .tup x.pv) ++ [.tup ps]))).set A.i (.tdict (fun x => if x = ps then some (.int (T.rows.length : Int)) else ixOf T.rows x) (j + 1))).set A.p (.list (T.dep.map .int ++ [.int dv]))).set A.w (.list (T.wei.map .int ++ [.int wv]))).set A.o (.list (T.opn.map .int ++ [.int o])))
      a A T (T.add r o) j := by
  obtain ⟨n1, n2, n3, n4, n5, n6⟩ := K.apart
  obtain ⟨fs0, j0, ens, _⟩ := K.ns
  subst hd hw hp
  have dr : A.d ≠ A.r := ne_kind ens K.rows AObj.noConfusion
  have dp : A.d ≠ A.p := ne_kind ens K.dep AObj.noConfusion
  have dw : A.d ≠ A.w := ne_kind ens K.wei AObj.noConfusion
  have do' : A.d ≠ A.o := ne_kind ens K.opn AObj.noConfusion
  have di : A.d ≠ A.i := ne_kind ens hix AObj.noConfusion
  have ar : a ≠ A.r := ne_kind K.inst K.rows AObj.noConfusion
  have ap : a ≠ A.p := ne_kind K.inst K.dep AObj.noConfusion
  have aw : a ≠ A.w := ne_kind K.inst K.wei AObj.noConfusion
  have ao : a ≠ A.o := ne_kind K.inst K.opn AObj.noConfusion
  have ai : a ≠ A.i := ne_kind K.inst hix AObj.noConfusion
  have ir : A.i ≠ A.r := ne_kind hix K.rows AObj.noConfusion
  have ip : A.i ≠ A.p := ne_kind hix K.dep AObj.noConfusion
  have iw : A.i ≠ A.w := ne_kind hix K.wei AObj.noConfusion
  have io : A.i ≠ A.o := ne_kind hix K.opn AObj.noConfusion
  have k1 := K.toKN.set (b := A.r) (o := .list ((T.rows.map fun x => .tup x.pv) ++ [.tup r.pv])) ar dr
  have k2 := k1.set (b := A.i) (o := .tdict (fun x => if x = r.pv then some (.int (T.rows.length : Int)) else ixOf T.rows x) (j + 1)) ai di
  have k3 := k2.set (b := A.p) (o := .list (T.dep.map .int ++ [.int (depOf T.dep r)])) ap dp
  have k4 := k3.set (b := A.w) (o := .list (T.wei.map .int ++ [.int (weiOf T.wei r)])) aw dw
  have m1 : ∀ {b : Addr} {H : AH} {o : AObj}, b ∈ [A.r, A.i, A.p, A.w, A.o] → Same [A.r, A.i, A.p, A.w, A.o] H (H.set b o) := fun hb => Same.set.mono fun c hc => by rw [List.mem_singleton.mp hc]; exact hb
  refine ⟨k1, hset_ne ir hix, k2, hset_ne (Ne.symm ip) (hset_ne (Ne.symm n1) K.dep), k3, hset_ne (Ne.symm n4) (hset_ne (Ne.symm iw) (hset_ne (Ne.symm n2) K.wei)), k4,
    hset_ne (Ne.symm n6) (hset_ne (Ne.symm n5) (hset_ne (Ne.symm io) (hset_ne (Ne.symm n3) K.opn))), ⟨k4.set ao do', ?_, ⟨j + 1, ?_, ?_⟩, ?_, ?_, ?_, K.apart⟩,
    ((((m1 (mem_at 0 rfl)).trans (m1 (mem_at 1 rfl))).trans (m1 (mem_at 2 rfl))).trans (m1 (mem_at 3 rfl))).trans (m1 (mem_at 4 rfl))⟩
  · refine hset_ne n3 (hset_ne n2 (hset_ne n1 (hset_ne (Ne.symm ir) ?_)))
    rw [hset]; unfold Tab.add; rw [List.map_append]; rfl
  · refine hset_ne io (hset_ne iw (hset_ne ip ?_))
    rw [hset, ix_add e]; rfl
  · unfold Tab.add; rw [List.length_append]; exact Nat.succ_le_succ hj
  · refine hset_ne n5 (hset_ne n4 ?_)
    rw [hset]; unfold Tab.add; rw [List.map_append]; rfl
  · refine hset_ne n6 ?_
    rw [hset]; unfold Tab.add; rw [List.map_append]; rfl
  · rw [hset]; unfold Tab.add; rw [List.map_append]; rfl
end
section
open PySem PySem.W PySem.Calls PyProof.Rows
open scoped Classical

abbrev S (x : String) : PySem.Str := Str.ofString x
noncomputable def nameText (nm : Int → Option PySem.Str) (t : Int) : PySem.Str := (nm t).getD (S "T" ++ S (toString t))
noncomputable def argsText (prev : Int → Nat → PySem.Str) (as : List Int) (lev : Nat) : PySem.Str :=
  if as = [] then S "" else if 8 ≤ lev then S "<..>" else S "<" ++ Txt.join (S ", ") (as.map fun x => prev x (lev + 1)) ++ S ">"
noncomputable def primText (n : Int) : PySem.Str := S (primWords.getD n.toNat "?")
noncomputable def rowText (nm : Int → Option PySem.Str) (prev : Int → Nat → PySem.Str) (lev : Nat) : Row → PySem.Str
  | .prim n => primText n
  | .cls t as => nameText nm t ++ argsText prev as lev
  | .vlu t as => nameText nm t ++ argsText prev as lev
  | .arr k => prev k lev ++ S "[]"
  | .byr k => prev k lev ++ S "&"
  | .var i => S "!" ++ S (toString i)
  | .mvar i => S "!!" ++ S (toString i)
  | .box k => S "boxed " ++ prev k lev
  | .ror k => S "readonly " ++ prev k lev ++ S "&"
  | .ftn o m as => S "method " ++ prev o (lev + 1) ++ S "::" ++ S (toString m) ++ argsText prev as lev
  | .raw k => S "raw " ++ prev k lev
noncomputable def tx (nm : Int → Option PySem.Str) (rows : List Row) : Nat → Int → Nat → PySem.Str
  | 0, _, _ => S ""
  | f + 1, k, lev => match rows[k.toNat]? with
    | some r => rowText nm (tx nm rows f) lev r
    | none => S ""
noncomputable def TX (nm : Int → Option PySem.Str) (rows : List Row) (k : Int) (lev : Nat) : PySem.Str := tx nm rows (k.toNat + 1) k lev

noncomputable def Cl (rows : List Row) : Prop := ∀ (k : Nat) r, rows[k]? = some r → ∀ x ∈ r.inner, 0 ≤ x ∧ x < k

theorem args_congr {prev prev' : Int → Nat → PySem.Str} {as : List Int} {lev : Nat} (h : ∀ x ∈ as, ∀ l, prev x l = prev' x l) : argsText prev as lev = argsText prev' as lev := by
  unfold argsText
  rw [List.map_congr_left (fun x hx => h x hx (lev + 1))]
theorem row_congr {nm : Int → Option PySem.Str} {prev prev' : Int → Nat → PySem.Str} {lev : Nat} {r : Row} (h : ∀ x ∈ r.inner, ∀ l, prev x l = prev' x l) : rowText nm prev lev r = rowText nm prev' lev r := by
  cases r with
  | prim n => rfl
  | var i => rfl
  | mvar i => rfl
  | cls t as => simp only [rowText]; rw [args_congr (as := as) h]
  | vlu t as => simp only [rowText]; rw [args_congr (as := as) h]
  | ftn o m as => simp only [rowText]; rw [args_congr fun x hx => h x (List.mem_cons_of_mem _ hx), h o (by simp [Row.inner])]
  | _ => simp only [rowText]; rw [h _ (by simp [Row.inner])]

theorem tx_stable {nm : Int → Option PySem.Str} {rows : List Row} (hc : Cl rows) : ∀ (n : Nat) (k : Int), k.toNat = n → ∀ (f : Nat) (lev : Nat), n < f → tx nm rows f k lev = TX nm rows k lev := by
  intro n
  induction n using Nat.strongRecOn with
  | _ n ih =>
    intro k hk f lev hf
    cases f with
    | zero => exact absurd hf (Nat.not_lt_zero _)
    | succ f =>
      unfold TX
      rw [tx, tx]
      cases e : rows[k.toNat]? with
      | none => rfl
      | some r =>
        dsimp only
        refine row_congr fun x hx l => ?_
        have h1 := hc _ r e x hx
        rw [ih x.toNat (by omega) x rfl f l (by omega), ih x.toNat (by omega) x rfl k.toNat l (by omega)]
theorem TX_eq {nm : Int → Option PySem.Str} {rows : List Row} (hc : Cl rows) {k : Int} {r : Row} (e : rows[k.toNat]? = some r) (lev : Nat) : TX nm rows k lev = rowText nm (TX nm rows) lev r := by
  unfold TX
  rw [tx, e]
  dsimp only
  refine row_congr fun x hx l => ?_
  have h1 := hc _ r e x hx
  exact tx_stable hc x.toNat x rfl _ l (by omega)
theorem TX_ext {nm : Int → Option PySem.Str} {rows rows' : List Row} (hp : rows <+: rows') (hc : Cl rows) (hc' : Cl rows') : ∀ (n : Nat) (k : Int), k.toNat = n → n < rows.length → ∀ lev, TX nm rows' k lev = TX nm rows k lev := by
  intro n
  induction n using Nat.strongRecOn with
  | _ n ih =>
    intro k hk hn lev
    have e : rows[k.toNat]? = some rows[n] := by rw [hk]; exact List.getElem?_eq_getElem hn
    rw [TX_eq hc e, TX_eq hc' (prefix_get hp e)]
    refine row_congr fun x hx l => ?_
    have h1 := hc _ _ e x hx
    exact ih x.toNat (by omega) x rfl (by omega) l

/-- the weight bounds the text -/
theorem weiOf_sum (wei : List Int) (r : Row) : weiOf wei r = 1 + (r.inner.map fun x => wei.getD x.toNat 0).sum := by
  unfold weiOf
  generalize (1 : Int) = d
  generalize r.inner = l
  induction l generalizing d with
  | nil => simp
  | cons x l ih =>
    rw [List.foldl_cons, ih, List.map_cons, List.sum_cons]
    unfold weiStep; omega

noncomputable def NmOk (nm : Int → Option PySem.Str) : Prop := ∀ t x, nm t = some x → x.length ≤ 10
theorem S_len (x : String) : (S x).length = x.length := by
  unfold S
  rw [Str.ofString_eq_toList]
  show ((x.toList.map Char.toNat).toArray).size = _
  simp [String.length_toList]
theorem join_len (sep : PySem.Str) (ts : List PySem.Str) : (Txt.join sep ts).length ≤ (ts.map (·.length)).sum + ts.length * sep.length := by
  rw [show Txt.join sep ts = Str.join sep ts from StrLaws.glued_eq_join sep ts]
  exact StrLaws.join_length_le sep ts
theorem app_len (a b : PySem.Str) : (a ++ b).length = a.length + b.length := PySem.Str.length_append a b
theorem name_len {nm : Int → Option PySem.Str} (h : NmOk nm) {t : Int} (ht : t ∈ tids) : (nameText nm t).length ≤ 10 := by
  unfold nameText
  cases e : nm t with
  | some x => exact h t x e
  | none =>
    rw [Option.getD_none, app_len, S_len, S_len]
    simp only [tids, List.mem_cons, List.not_mem_nil, or_false] at ht
    rcases ht with rfl | rfl | rfl | rfl | rfl | rfl <;> decide +kernel
theorem prim_len (n : Int) : (primText n).length ≤ 11 := by
  unfold primText
  rw [S_len]
  rw [List.getD_eq_getElem?_getD]
  cases e : primWords[n.toNat]? with
  | none => decide +kernel
  | some x =>
    have : ∀ y ∈ primWords, y.length ≤ 11 := by decide +kernel
    exact this x (List.mem_of_getElem? e)
theorem sum_le {l : List Int} {f : Int → PySem.Str} {g : Int → Int} (h : ∀ x ∈ l, ((f x).length : Int) + 2 ≤ 24 * g x) : ((((l.map f).map (·.length)).sum : Nat) : Int) + 2 * l.length ≤ 24 * (l.map g).sum := by
  induction l with
  | nil => simp
  | cons x l ih =>
    have h1 := h x (by simp)
    have h2 := ih fun y hy => h y (by simp [hy])
    simp only [List.map_cons, List.sum_cons, List.length_cons, Int.natCast_add] at h2 ⊢
    omega
theorem args_len {prev : Int → Nat → PySem.Str} {as : List Int} {lev : Nat} {g : Int → Int} (h : ∀ x ∈ as, ((prev x (lev + 1)).length : Int) + 2 ≤ 24 * g x) (h0 : ∀ x ∈ as, 0 ≤ g x) :
    ((argsText prev as lev).length : Int) ≤ 4 + 24 * (as.map g).sum := by
  have pos : 0 ≤ (as.map g).sum := by
    clear h
    induction as with
    | nil => simp
    | cons x l ih => have := h0 x (by simp); have := ih fun y hy => h0 y (by simp [hy]); simp only [List.map_cons, List.sum_cons]; omega
  unfold argsText
  split
  · rw [S_len]; simp; omega
  · split
    · rw [S_len]; show (4 : Int) ≤ _; omega
    · rw [app_len, app_len, S_len, S_len]
      have := join_len (S ", ") (as.map fun x => prev x (lev + 1))
      have h2 := sum_le (l := as) (f := fun x => prev x (lev + 1)) (g := g) h
      rw [S_len, List.length_map] at this
      have e : (", " : String).length = 2 := by decide +kernel
      have e1 : ("<" : String).length = 1 := by decide +kernel
      have e2 : (">" : String).length = 1 := by decide +kernel
      rw [e] at this
      rw [e1, e2]
      omega
theorem num_len {m : Int} (h : m ∈ mids ∨ m ∈ places) : (S (toString m)).length ≤ 1 := by
  rw [S_len]
  rcases h with h | h
  · have : ∀ y ∈ mids, (toString y).length ≤ 1 := by decide +kernel
    exact this m h
  · have : ∀ y ∈ places, (toString y).length ≤ 1 := by decide +kernel
    exact this m h

theorem TX_len {T : Tab} (hT : T.Ok) {nm : Int → Option PySem.Str} (hn : NmOk nm) : ∀ (n : Nat) (k : Int), k.toNat = n → n < T.rows.length → ∀ lev, ((TX nm T.rows k lev).length : Int) + 2 ≤ 24 * T.wei.getD n 0 := by
  intro n
  induction n using Nat.strongRecOn with
  | _ n ih =>
    intro k hk hl lev
    have e : T.rows[k.toNat]? = some T.rows[n] := by rw [hk]; exact List.getElem?_eq_getElem hl
    have e' : T.rows[n]? = some T.rows[n] := List.getElem?_eq_getElem hl
    rw [TX_eq hT.inn e]
    generalize T.rows[n] = r at e e'
    have hw := (hT.dw n r e').2
    rw [List.getD_eq_getElem?_getD, hw, Option.getD_some, weiOf_sum]
    have hin := hT.inn n r e'
    have hnum := (hT.num n r e').1
    have len : ∀ x ∈ r.inner, ∀ l, ((TX nm T.rows x l).length : Int) + 2 ≤ 24 * T.wei.getD x.toNat 0 := fun x hx l => ih x.toNat (by have := hin x hx; omega) x rfl (by have := hin x hx; omega) l
    have nn : ∀ x ∈ r.inner, 0 ≤ T.wei.getD x.toNat 0 := fun x hx => by have := len x hx 0; omega
    have k1 : ("[]" : String).length = 2 := by decide +kernel
    have k2 : ("&" : String).length = 1 := by decide +kernel
    have k3 : ("!" : String).length = 1 := by decide +kernel
    have k4 : ("!!" : String).length = 2 := by decide +kernel
    have k5 : ("boxed " : String).length = 6 := by decide +kernel
    have k6 : ("readonly " : String).length = 9 := by decide +kernel
    have k7 : ("method " : String).length = 7 := by decide +kernel
    have k8 : ("::" : String).length = 2 := by decide +kernel
    have k9 : ("raw " : String).length = 4 := by decide +kernel
    cases r with
    | prim m => have := prim_len m; simp only [rowText, Row.inner, List.map_nil, List.sum_nil]; omega
    | cls t as =>
      have h1 := name_len hn (t := t) hnum
      have h2 := args_len (lev := lev) (g := fun x => T.wei.getD x.toNat 0) (fun x hx => len x hx _) nn
      simp only [rowText, Row.inner, app_len] at *; omega
    | vlu t as =>
      have h1 := name_len hn (t := t) hnum
      have h2 := args_len (lev := lev) (g := fun x => T.wei.getD x.toNat 0) (fun x hx => len x hx _) nn
      simp only [rowText, Row.inner, app_len] at *; omega
    | var i => have := num_len (.inr hnum); simp only [rowText, Row.inner, app_len, S_len, List.map_nil, List.sum_nil] at *; omega
    | mvar i => have := num_len (.inr hnum); simp only [rowText, Row.inner, app_len, S_len, List.map_nil, List.sum_nil] at *; omega
    | ftn o m as =>
      have h1 := num_len (.inl hnum)
      have h2 := args_len (lev := lev) (g := fun x => T.wei.getD x.toNat 0) (fun x hx => len x (List.mem_cons_of_mem _ hx) _) (fun x hx => nn x (List.mem_cons_of_mem _ hx))
      have h3 := len o (by simp [Row.inner]) (lev + 1)
      simp only [rowText, Row.inner, app_len, S_len, List.map_cons, List.sum_cons] at *; omega
    | arr j => have := len j (by simp [Row.inner]) lev; simp only [rowText, Row.inner, app_len, S_len, List.map_cons, List.map_nil, List.sum_cons, List.sum_nil] at *; omega
    | byr j => have := len j (by simp [Row.inner]) lev; simp only [rowText, Row.inner, app_len, S_len, List.map_cons, List.map_nil, List.sum_cons, List.sum_nil] at *; omega
    | box j => have := len j (by simp [Row.inner]) lev; simp only [rowText, Row.inner, app_len, S_len, List.map_cons, List.map_nil, List.sum_cons, List.sum_nil] at *; omega
    | ror j => have := len j (by simp [Row.inner]) lev; simp only [rowText, Row.inner, app_len, S_len, List.map_cons, List.map_nil, List.sum_cons, List.sum_nil] at *; omega
    | raw j => have := len j (by simp [Row.inner]) lev; simp only [rowText, Row.inner, app_len, S_len, List.map_cons, List.map_nil, List.sum_cons, List.sum_nil] at *; omega
end
section
open PySem PySem.W PySem.Calls PyProof.Rows
open scoped Classical

noncomputable def MemoOk (nm : Int → Option PySem.Str) (T : Tab) (m : List PV → Option PV) : Prop := ∀ ks v, m ks = some v → ∃ (k lev : Nat), ks = [.int k, .int lev] ∧ v = .str (TX nm T.rows k lev)
structure Sh (C : Ctx) (H : AH) (a : Addr) (A : KA) (T : Tab) (an : Addr) (nm : Int → Option PySem.Str) (t : Addr) (n : Nat) : Prop where
  K : KT C H a A T
  ok : T.Ok
  len : T.rows.length ≤ 500
  names : ∃ j, H an = some (.idict (fun k => (nm k).map PV.str) j)
  nmok : NmOk nm
  ta : ∀ b ∈ [a, A.d, A.r, A.i, A.p, A.w, A.o, an], b ≠ t
  memo : ∃ m, H t = some (.tdict m n) ∧ MemoOk nm T m

section
variable {C : Ctx} {H H' : AH} {a : Addr} {A : KA} {T : Tab} {an : Addr} {nm : Int → Option PySem.Str} {t : Addr} {n : Nat}

theorem Sh.obj (h : Sh C H a A T an nm t n) : ∀ b ∈ [a, A.d, A.r, A.i, A.p, A.w, A.o, an, t], ∃ o, H b = some o := by
  obtain ⟨fs, j, e, _⟩ := h.K.ns
  obtain ⟨j2, e2, _⟩ := h.K.ix
  obtain ⟨j3, e3⟩ := h.names
  obtain ⟨m, e4, _⟩ := h.memo
  exact al_cons ⟨_, h.K.inst⟩ (al_cons ⟨_, e⟩ (al_cons ⟨_, h.K.rows⟩ (al_cons ⟨_, e2⟩ (al_cons ⟨_, h.K.dep⟩ (al_cons ⟨_, h.K.wei⟩ (al_cons ⟨_, h.K.opn⟩ (al_cons ⟨_, e3⟩ (sing ⟨_, e4⟩))))))))
theorem Sh.ne (h : Sh C H a A T an nm t n) {c : Addr} (hc : H c = none) : ∀ b ∈ [a, A.d, A.r, A.i, A.p, A.w, A.o, an, t], b ≠ c := fun b hb => let ⟨_, e⟩ := h.obj b hb; ne_fresh e hc
theorem Sh.set (h : Sh C H a A T an nm t n) {c : Addr} {o : AObj} (hc : ∀ b ∈ [a, A.d, A.r, A.i, A.p, A.w, A.o, an, t], b ≠ c) : Sh C (H.set c o) a A T an nm t n := by
  obtain ⟨j3, e3⟩ := h.names
  obtain ⟨m, e4, hm⟩ := h.memo
  refine ⟨h.K.same (S := [c]) Same.set fun b hb q => ?_, h.ok, h.len, ⟨j3, hset_ne (hc an (mem_at 7 rfl)) e3⟩, h.nmok, h.ta, ⟨m, hset_ne (hc t (mem_at 8 rfl)) e4, hm⟩⟩
  exact hc b (sub_at [0, 1, 2, 3, 4, 5, 6] rfl b hb) (List.mem_singleton.mp q)
/-- the memo written -/
theorem Sh.put (h : Sh C H a A T an nm t n) {m : List PV → Option PV} {n' : Nat} (hm : MemoOk nm T m) : Sh C (H.set t (.tdict m n')) a A T an nm t n' := by
  obtain ⟨j3, e3⟩ := h.names
  refine ⟨h.K.same (S := [t]) Same.set fun b hb q => ?_, h.ok, h.len, ⟨j3, hset_ne (h.ta an (mem_at 7 rfl)) e3⟩, h.nmok, h.ta, ⟨m, hset, hm⟩⟩
  exact h.ta b (sub_at [0, 1, 2, 3, 4, 5, 6] rfl b hb) (List.mem_singleton.mp q)

theorem Same.setFresh {S : List Addr} {H H' : AH} (x : Same S H H') {c : Addr} (hc : H c = none) (o : AObj) : Same S H (H'.set c o) := fun b o' e n => hset_ne (by rintro rfl; rw [hc] at e; cases e) (x b o' e n)
theorem sum_nn {l : List Int} {f : Int → Int} (h : ∀ x ∈ l, 0 ≤ f x) : 0 ≤ (l.map f).sum := by
  induction l with
  | nil => simp
  | cons x l ih => have := h x (by simp); have := ih fun y hy => h y (by simp [hy]); simp only [List.map_cons, List.sum_cons]; omega
theorem sum_take {l : List Int} {f : Int → Int} (h : ∀ x ∈ l, 0 ≤ f x) {i : Nat} {x : Int} (hx : l[i]? = some x) : ((l.take i).map f).sum + f x ≤ (l.map f).sum ∧ ((l.take (i + 1)).map f).sum = ((l.take i).map f).sum + f x := by
  have e : l.take (i + 1) = l.take i ++ [x] := by rw [List.take_add_one, hx]; rfl
  refine ⟨?_, by rw [e]; simp⟩
  have h2 : 0 ≤ ((l.drop (i + 1)).map f).sum := sum_nn fun y hy => h y (List.mem_of_mem_drop hy)
  have : (l.map f).sum = ((l.take (i + 1)).map f).sum + ((l.drop (i + 1)).map f).sum := by
    rw [← List.sum_append, ← List.map_append, List.take_append_drop]
  rw [this, e, List.map_append, List.sum_append]
  simp only [List.map_cons, List.map_nil, List.sum_cons, List.sum_nil]
  omega

/-- what a text gives: the text, the memo grown by no more than so much -/
noncomputable def ShP (C : Ctx) (H : AH) (a : Addr) (A : KA) (T : Tab) (an : Addr) (nm : Int → Option PySem.Str) (t : Addr) (n : Nat) (x : PySem.Str) (w : Int) : PV → AH → Prop :=
  fun q H' => q = .str x ∧ ∃ n' : Nat, (n' : Int) ≤ n + w ∧ Sh C H' a A T an nm t n' ∧ Same [t] H H'
theorem ShP.el {C : Ctx} {H : AH} {a : Addr} {A : KA} {T : Tab} {an : Addr} {nm : Int → Option PySem.Str} {t : Addr} {n : Nat} {x : PySem.Str} {w : Int} {Q : PV → AH → Prop} (h : ∀ (n' : Nat) H', (n' : Int) ≤ n + w → Sh C H' a A T an nm t n' → Same [t] H H' → Q (.str x) H') :
    ∀ p H', ShP C H a A T an nm t n x w p H' → Q p H' := by rintro _ H' ⟨rfl, n', h1, h2, h3⟩; exact h n' H' h1 h2 h3
theorem wei_get {T : Tab} (hT : T.Ok) {k : Nat} (hk : k < T.rows.length) : 1 ≤ T.wei.getD k 0 ∧ T.wei.getD k 0 ≤ 4096 := by
  rw [List.getD_eq_getElem?_getD, List.getElem?_eq_getElem (by rw [hT.lw]; exact hk), Option.getD_some]
  exact hT.wb _ (List.getElem_mem _)
theorem TX_small {T : Tab} (hT : T.Ok) (hn : NmOk nm) {k : Int} (hk : k.toNat < T.rows.length) (lev : Nat) : (TX nm T.rows k lev).length ≤ 98304 := by
  have h1 := TX_len hT hn k.toNat k rfl hk lev
  have h2 := wei_get hT hk
  omega
theorem sum_small {l : List PySem.Str} {B : Nat} (h : ∀ x ∈ l, x.length ≤ B) : (l.map (·.length)).sum ≤ l.length * B := by
  induction l with
  | nil => simp
  | cons x l ih =>
    have h1 := h x (by simp)
    have h2 := ih fun y hy => h y (by simp [hy])
    simp only [List.map_cons, List.sum_cons, List.length_cons, Nat.add_mul, Nat.one_mul]
    omega
end
end
section
open PySem PySem.W PySem.Calls PyProof.Rows
open scoped Classical

theorem args_small {T : Tab} (hT : T.Ok) {nm : Int → Option PySem.Str} (hn : NmOk nm) {as : List Int} {lev : Nat} (hi : ∀ x ∈ as, 0 ≤ x ∧ x.toNat < T.rows.length) (hs : (as.map fun x => T.wei.getD x.toNat 0).sum ≤ 4096) :
    (argsText (TX nm T.rows) as lev).length ≤ 98308 := by
  have := args_len (prev := TX nm T.rows) (as := as) (lev := lev) (g := fun x => T.wei.getD x.toNat 0) (fun x hx => TX_len hT hn x.toNat x rfl (hi x hx).2 _) (fun x hx => by have := wei_get hT (hi x hx).2; omega)
  omega
theorem str_nil_app (x : PySem.Str) : S "" ++ x = x := by
  have : S "" = Str.empty := by unfold S; decide +kernel
  rw [this]; exact PySem.Str.empty_append x
theorem str_app_nil (x : PySem.Str) : x ++ S "" = x := by
  have : S "" = Str.empty := by unfold S; decide +kernel
  rw [this]; exact PySem.Str.append_empty x

/-- a row that wraps one kind, or none -/
theorem wrap_cases (r : Row) : (∃ (x : Int) (pre post : String), around r.sort = some (.tup [.str (Str.ofString pre), .str (Str.ofString post)]) ∧ r.pv = [.int r.sort, .int x] ∧ r.inner = [x] ∧ (Str.ofString pre).length ≤ 10 ∧ (Str.ofString post).length ≤ 10 ∧
      ∀ nm prev lev, rowText nm prev lev r = Str.ofString pre ++ prev x lev ++ Str.ofString post) ∨
    (around r.sort = none ∧ (r.sort = 1 ∨ r.sort = 2 ∨ r.sort = 3 ∨ r.sort = 6 ∨ r.sort = 7 ∨ r.sort = 10)) := by
  have ln : ∀ x : String, x.length ≤ 10 → (Str.ofString x).length ≤ 10 := fun x h => by rw [show (Str.ofString x).length = x.length from S_len x]; exact h
  cases r with
  | arr k => exact .inl ⟨k, "", "[]", rfl, rfl, rfl, ln _ (by decide +kernel), ln _ (by decide +kernel), fun nm prev lev => by rw [show Str.ofString "" ++ prev k lev = prev k lev from str_nil_app _]; rfl⟩
  | byr k => exact .inl ⟨k, "", "&", rfl, rfl, rfl, ln _ (by decide +kernel), ln _ (by decide +kernel), fun nm prev lev => by rw [show Str.ofString "" ++ prev k lev = prev k lev from str_nil_app _]; rfl⟩
  | box k => exact .inl ⟨k, "boxed ", "", rfl, rfl, rfl, ln _ (by decide +kernel), ln _ (by decide +kernel), fun nm prev lev => (str_app_nil _).symm⟩
  | ror k => exact .inl ⟨k, "readonly ", "&", rfl, rfl, rfl, ln _ (by decide +kernel), ln _ (by decide +kernel), fun nm prev lev => rfl⟩
  | raw k => exact .inl ⟨k, "raw ", "", rfl, rfl, rfl, ln _ (by decide +kernel), ln _ (by decide +kernel), fun nm prev lev => (str_app_nil _).symm⟩
  | prim n => exact .inr ⟨rfl, .inl rfl⟩
  | cls t as => exact .inr ⟨rfl, .inr (.inl rfl)⟩
  | vlu t as => exact .inr ⟨rfl, .inr (.inr (.inl rfl))⟩
  | var i => exact .inr ⟨rfl, .inr (.inr (.inr (.inl rfl)))⟩
  | mvar i => exact .inr ⟨rfl, .inr (.inr (.inr (.inr (.inl rfl))))⟩
  | ftn o m as => exact .inr ⟨rfl, .inr (.inr (.inr (.inr (.inr rfl))))⟩

/-- the contract of show_level at a kind -/
noncomputable def LevelOk (C : Ctx) (a : Addr) (A : KA) (T : Tab) (an : Addr) (nm : Int → Option PySem.Str) (t : Addr) (k : Nat) : Prop :=
  ∀ (H : AH) (n lev : Nat), Sh C H a A T an nm t n → (n : Int) + T.wei.getD k 0 ≤ 900000 →
    CodeP C (4 * k + 6) (.ref 243) [.val (.ref a), .int (k : Int), .val (.ref an), .int (lev : Int), .val (.ref t)] H (ShP C H a A T an nm t n (TX nm T.rows k lev) (T.wei.getD k 0))
theorem LevelOk.use {C : Ctx} {a : Addr} {A : KA} {T : Tab} {an : Addr} {nm : Int → Option PySem.Str} {t : Addr} {x : Int} (h : LevelOk C a A T an nm t x.toNat) (h0 : 0 ≤ x) {H : AH} {n lev : Nat} (hs : Sh C H a A T an nm t n) (hn : (n : Int) + T.wei.getD x.toNat 0 ≤ 900000) {N : Nat} (hN : 4 * x.toNat + 6 ≤ N) :
    CodeP C N (.ref 243) [.val (.ref a), .int x, .val (.ref an), .int (lev : Int), .val (.ref t)] H (ShP C H a A T an nm t n (TX nm T.rows x lev) (T.wei.getD x.toNat 0)) := by
  have e : ((x.toNat : Nat) : Int) = x := Int.toNat_of_nonneg h0
  have := (h H n lev hs hn).mono hN
  rw [e] at this
  exact this
theorem primW_get {k : Nat} (hk : k < 16) : primW[k]? = some (.str (primText k)) := by
  unfold primW primText S
  rw [List.getElem?_map]
  have hl : primWords.length = 16 := rfl
  rw [List.getElem?_eq_getElem (by rw [hl]; exact hk), List.getD_eq_getElem?_getD]
  simp [List.getElem?_eq_getElem (show k < primWords.length by rw [hl]; exact hk)]
theorem wei_row {T : Tab} (hT : T.Ok) {k : Nat} {r : Row} (hr : T.rows[k]? = some r) : T.wei.getD k 0 = 1 + (r.inner.map fun x => T.wei.getD x.toNat 0).sum := by
  rw [← weiOf_sum, List.getD_eq_getElem?_getD, (hT.dw k r hr).2]; rfl
end
section
open PySem PySem.W PySem.Calls PyProof.Rows
open scoped Classical

theorem iDic0 {H : AH} {Q : PV → AH → Prop} (q : ∀ c, H c = none → Q (.val (.ref c)) (H.set c (.tdict (fun _ => none) 0))) : awDict [] [] H Q := .nil q

theorem Sh.start {C : Ctx} {H : AH} {a : Addr} {A : KA} {T : Tab} {an : Addr} {nm : Int → Option PySem.Str} {c : Addr} {j : Nat} (K : KT C H a A T) (hT : T.Ok) (hl : T.rows.length ≤ 500) (hN : H an = some (.idict (fun k => (nm k).map PV.str) j)) (hn : NmOk nm) (hc : H c = none) :
    Sh C (H.set c (.tdict (fun _ => none) 0)) a A T an nm c 0 := by
  obtain ⟨fs, j1, e1, _⟩ := K.ns
  obtain ⟨j2, e2, _⟩ := K.ix
  have ne : ∀ b ∈ [a, A.d, A.r, A.i, A.p, A.w, A.o, an], b ≠ c := by
    exact al_cons (ne_fresh K.inst hc) (al_cons (ne_fresh e1 hc) (al_cons (ne_fresh K.rows hc) (al_cons (ne_fresh e2 hc) (al_cons (ne_fresh K.dep hc) (al_cons (ne_fresh K.wei hc) (al_cons (ne_fresh K.opn hc) (sing (ne_fresh hN hc))))))))
  refine ⟨K.same (S := [c]) Same.set fun b hb q => ?_, hT, hl, ⟨j, hset_ne (ne an (mem_at 7 rfl)) hN⟩, hn, ne, ⟨_, hset, fun ks v e => nomatch e⟩⟩
  exact ne b (sub_at [0, 1, 2, 3, 4, 5, 6] rfl b hb) (List.mem_singleton.mp q)
theorem Same.ofFresh {H H' : AH} {c : Addr} {o : AObj} (hc : H c = none) (x : Same [c] (H.set c o) H') : Same [] H H' := fun b o' e _ => x b o' (hset_ne (ne_fresh e hc) e) (out_sing (ne_fresh e hc))

theorem rng_get {b : Int} {i : Nat} {p : PV} (h : (rngItems 0 b 1)[i]? = some p) : p = .int (i : Int) ∧ (i : Int) < b := by
  unfold rngItems at h
  rw [List.getElem?_map] at h
  obtain ⟨j, hj, rfl⟩ := Option.map_eq_some_iff.mp h
  obtain ⟨hlt, hj⟩ := List.getElem?_eq_some_iff.mp hj
  rw [List.getElem_range] at hj
  subst hj
  rw [List.length_range] at hlt
  refine ⟨by simp, ?_⟩
  unfold Builtin.Range.rangeSize at hlt
  rw [if_pos (by decide)] at hlt
  split at hlt
  · rw [Int.ediv_one] at hlt; omega
  · simp at hlt
theorem rng_len {b : Int} (hb : 0 ≤ b) : (rngItems 0 b 1).length = b.toNat := by
  unfold rngItems
  rw [List.length_map, List.length_range]
  unfold Builtin.Range.rangeSize
  rw [if_pos (by decide)]
  split
  · rw [Int.ediv_one]; omega
  · have : b = 0 := by omega
    subst this; rfl

/-- one attribute of a new table laid -/
structure InitS (C : Ctx) (H H1 : AH) (x d c : Addr) (fs' : PySem.Str → Option PV) (j : Nat) (o : AObj) : Prop where
  x1 : H1 x = some (.inst C.KT d)
  d1 : H1 d = some (.ns fs' (j + 1))
  g1 : H1 c = some o
  n1 : c ∉ [d]
  S1 : Same [d] H H1
theorem initStep {C : Ctx} {H : AH} {x d c : Addr} {fs : PySem.Str → Option PV} {j : Nat} {o : AObj} {fs' : PySem.Str → Option PV} (hx : H x = some (.inst C.KT d)) (hd : H d = some (.ns fs j)) (hc : H c = none) :
    InitS C H ((H.set c o).set d (.ns fs' (j + 1))) x d c fs' j o := by
  have xd : x ≠ d := ne_kind hx hd AObj.noConfusion
  have cd : c ≠ d := Ne.symm (ne_fresh hd hc)
  have cx : c ≠ x := Ne.symm (ne_fresh hx hc)
  exact ⟨hset_ne xd (hset_ne (Ne.symm cx) hx), hset, hset_ne cd hset, out_sing cd, fun b o' e n => hset_ne (fun q => n (List.mem_singleton.mpr q)) (hset_ne (ne_fresh e hc) e)⟩
noncomputable def baseTab : Tab := ⟨[], [], [], []⟩
theorem baseTab_ok : baseTab.Ok := ⟨rfl, rfl, rfl, fun i j r h => by simp [baseTab] at h, fun k r h => by simp [baseTab] at h, fun w h => by simp [baseTab] at h, fun k n h => by simp [baseTab] at h, fun k r h => by simp [baseTab] at h, fun k r h => by simp [baseTab] at h⟩
end
section
open PySem PySem.W PySem.Calls PyProof.Rows
open scoped Classical

theorem iDicP {H : AH} {Q : PV → AH → Prop} {k : Option PySem.Expr} {ks : List (Option PySem.Expr)} {vs : List PySem.Expr} {ps : List (Int × PySem.Str)} (h : CPairs (k :: ks) vs ps) (hl : 0 < ps.length ∧ ps.length ≤ 15)
    (q : ∀ c, H c = none → Q (.val (.ref c)) (H.set c (.idict (pairsMap ps) ps.length))) : awDict (k :: ks) vs H Q := .pairs h hl.1 hl.2 q
noncomputable def nmOf (ps : List (Int × PySem.Str)) : Int → Option PySem.Str := ps.foldl (fun m p => fun k => if k = p.1 then some p.2 else m k) (fun _ => none)
theorem pairs_nm (ps : List (Int × PySem.Str)) : pairsMap ps = fun k => (nmOf ps k).map PV.str := by
  unfold pairsMap nmOf
  have main : ∀ (m0 : Int → Option PySem.Str), ps.foldl (fun m p => fun k => if k = p.1 then some (PV.str p.2) else m k) (fun k => (m0 k).map PV.str) = fun k => (ps.foldl (fun m p => fun k => if k = p.1 then some p.2 else m k) m0 k).map PV.str := by
    induction ps with
    | nil => intro m0; rfl
    | cons p r ih =>
      intro m0
      rw [List.foldl_cons, List.foldl_cons, ← ih]
      congr 1
      funext k
      split <;> rfl
  exact main fun _ => none
theorem nm_set (nm : Int → Option PySem.Str) (i : Int) (x : PySem.Str) : (fun k => if k = i then some (PV.str x) else (nm k).map PV.str) = fun k => ((fun k => if k = i then some x else nm k) k).map PV.str := by
  funext k
  dsimp only
  split <;> rfl
theorem nm_ok_set {nm : Int → Option PySem.Str} (h : NmOk nm) {i : Int} {x : PySem.Str} (hx : x.length ≤ 10) : NmOk (fun k => if k = i then some x else nm k) := fun t y e => by
  dsimp only at e
  split at e
  · cases e; exact hx
  · exact h t y e
theorem nm_ok_of : ∀ (ps : List (Int × PySem.Str)), (∀ p ∈ ps, p.2.length ≤ 10) → NmOk (nmOf ps) := by
  intro ps h
  unfold nmOf
  have main : ∀ (l : List (Int × PySem.Str)) (m0 : Int → Option PySem.Str), NmOk m0 → (∀ p ∈ l, p.2.length ≤ 10) → NmOk (l.foldl (fun m p => fun k => if k = p.1 then some p.2 else m k) m0) := by
    intro l
    induction l with
    | nil => exact fun m0 h _ => h
    | cons p r ih => exact fun m0 h0 h => ih _ (nm_ok_set h0 (h p (by simp))) fun q hq => h q (by simp [hq])
  exact main ps _ (fun _ _ e => nomatch e) h
theorem short {x : String} (h : x.length ≤ 10) : (Str.ofString x).length ≤ 10 := by rw [show (Str.ofString x).length = x.length from S_len x]; exact h
theorem lt5 {P : Nat → Prop} (h0 : P 0) (h1 : P 1) (h2 : P 2) (h3 : P 3) (h4 : P 4) : ∀ i, i < 5 → P i
  | 0, _ => h0
  | 1, _ => h1
  | 2, _ => h2
  | 3, _ => h3
  | 4, _ => h4
  | i + 5, h => absurd h (Nat.not_lt.mpr (Nat.le_add_left 5 i))
end
set_option compiler.extract_closed false
local macro_rules
  | `(tactic| fail $s:str) => do
    let tab := match s.getString with
      | "A" => "evN:LN evG:aSLNDG evI: evS: evB: evZ: evNeg:"
      | "B" => "A av0: avC:DBB evAdd:BB evSub:BB evTup:BM"
      | "T" => "tvF:AADO tvT:AADO tnF:AADO tnT:AADO tlF:AADO tlT:AADO tgF:AADO tgT:AADO tvOr:T tvAnd:T to0: toF:TT toT:T ta0: taT:TT taF:T"
      | "W" => "awE,calG:aDADB calB:DAB calT:DAB calN:aDAB subV:ADB subR:AD binV:BB cmpV:DBB tupV:BM metR:DA attV:DA iNs:LN iNn:aSLNDG iInt: iStr: iMet:D iCal:D iBin: iSli: iSub:D iAtt:D iTup: iCmp:D iBop: iBoo: iNon: iNeg: iIf: iLst: iDic: iComH:SD;awEs,esV:B esC:D es0:;awSs,ifV:T retV:B setV:SDBU endV: ssC: ss0:;seqQ,seqN:U seqR:;retQ,rqR: rqN:;awT,teV:T tEqV:DAA tCmV:DBB tCmp:D tNot: tBop: tCal:D;awTs,tsA: tsO: tsA0: tsO0:;awB,bb1: bbO: bbA:;awCmp,cEI: cNI: cLI: cLEI: cGI: cGEI: cES: cNS:;awBin,bAI: bSI:;awA,aNameH:SDU aAttr: aSub:D aTup:;awNames,ns0: nsCH:SDU;awO,o0: oS:;ifG,igN: igT: igF:;awS,sSetCH:SD sSetH:SD sSetT:D sAugH:SDL sExp:D sRet: sRet0: sFor:D;awAttr,gRows:aK gIndex:aK gDepths:aK gWeights:aK gOpens:aK;awGetM,mRow:aK mPut:aK;awCall,fOur:aD fNew:a;trB: exAug: clB: clT: clF:aD clK:a rOwn: lnA:n"
      | "R" => "sIf: spT: spF: spNT: spNF: spDt:o spDf:o spNt:o spNf:o spD spN"
      | _ => ""
    if tab != "" then
      let mut gs : Array Lean.Syntax := #[]
      for g in tab.splitOn ";" do
        let hw := g.splitOn ","
        let mut r : Array Lean.Syntax := #[]
        for w in hw.getLast!.splitOn " " do
          let ns := w.splitOn ":"
          let mut t : Lean.TSyntax `tactic := ⟨Lean.Syntax.missing⟩
          if ns.length == 1 then
            t ← `(tactic| fail $(Lean.Syntax.mkStrLit w))
          else
            t ← `(tactic| apply $(Lean.mkIdent (Lean.Name.mkSimple ns.head!)))
            for c in ns.getLast!.toList do
              t ← `(tactic| ($t; fail $(Lean.Syntax.mkStrLit (toString c))))
          r := r.push (Lean.mkNullNode #[Lean.mkAtom "|", ← `(tacticSeq| $t:tactic)])
        let mut u : Lean.TSyntax `tactic := ⟨Lean.mkNode ``Lean.Parser.Tactic.first #[Lean.mkAtom "first", Lean.mkNullNode r]⟩
        if hw.length == 2 then
          u ← `(tactic| (show $(Lean.mkIdent (Lean.Name.mkSimple hw.head!)) ..; $u))
        gs := gs.push (Lean.mkNullNode #[Lean.mkAtom "|", ← `(tacticSeq| $u:tactic)])
      let v : Lean.TSyntax `tactic := ⟨Lean.mkNode ``Lean.Parser.Tactic.first #[Lean.mkAtom "first", Lean.mkNullNode gs]⟩
      `(tactic| with_reducible $v:tactic)
    else match s.getString with
    | "D" => `(tactic| decide +kernel)
    | "a" => `(tactic| assumption)
    | "o" => `(tactic| omega)
    | "L" => `(tactic| (dsimp only [lkS, String.reduceBEq, cond_true, cond_false] <;> (focus (repeat' (first | apply lkU | assumption | (apply lkN; assumption; fail "D") | (apply lkW; fail "D") | rfl)))))
    | "U" => `(tactic| first | (dsimp only [upd, String.reduceBEq, cond_true, cond_false] <;> rfl) | rfl)
    | "G" => `(tactic| (simp only [glA] <;> rfl))
    | "N" => `(tactic| simp only [String.reduceEq])
    | "S" => `(tactic| first | assumption | exact rfl)
    | "O" => `(tactic| first | assumption | decide | omega)
    | "K" => `(tactic| first | assumption | exact KT.toKN (by assumption))
    | "M" => `(tactic| with_unfolding_all exact Nat.le_of_ble_eq_true (Eq.refl true))
    | "n" => `(tactic| first | fail "M" | (simp only [List.length_cons, List.length_nil]; omega))
    | "spD" => `(tactic| refine spD (fun _ => ?_) (fun _ => ?_))
    | "spN" => `(tactic| refine spN (fun _ => ?_) (fun _ => ?_))
    | _ => Lean.Macro.throwUnsupported
section
open PySem PySem.W PySem.Calls PyProof.Rows
open scoped Classical

section
variable {C : Ctx} {p : Params} {mg mb : PySem.Str → Option Value} {H : AH} {a : Addr} {A : KA} {T : Tab}

theorem level_sound (G : Good C mg mb) (ho : Our C p) (k : Int) :
    CodeP C 1 (.ref 97) [.int k] H (fun r H' => H' = H ∧ r = .int (if k = 2 ∨ k = 3 ∨ k = 4 then 1 else 0)) := by
  refine our_call G ho (ps := ["sort"]) rfl rfl rfl (by exact vk1 fun _ => rfl) rfl (by decide +kernel) fun sc hsc => ?_
  dsimp only [List.zip_cons_cons, List.zip_nil_left, List.zip_nil_right] at hsc ⊢
  (repeat' (first | fail "W" | fail "R"))
  all_goals (refine ⟨rfl, ?_⟩; simp only [*, true_or, or_true, or_false, if_true, if_false])

theorem length_sound (G : Good C mg mb) (ho : Our C p) (k : Int) :
    CodeP C 1 (.ref 104) [.int k] H (fun r H' => H' = H ∧ r = .int (if k = 2 ∨ k = 3 then 3 else if k = 10 then 4 else 2)) := by
  refine our_call G ho (ps := ["sort"]) rfl rfl rfl (by exact vk1 fun _ => rfl) rfl (by decide +kernel) fun sc hsc => ?_
  dsimp only [List.zip_cons_cons, List.zip_nil_left, List.zip_nil_right] at hsc ⊢
  (repeat' (first | fail "W" | fail "R"))
  all_goals (refine ⟨rfl, ?_⟩; congr 1; (repeat' split) <;> omega)

theorem inner_sound (G : Good C mg mb) (ho : Our C p) (r : Row) (hl : r.inner.length ≤ 100) :
    CodeP C 1 (.ref 90) [.tup r.pv] H (fun q H' => H' = H ∧ q = iTp r.inner) := by
  refine our_call G ho (ps := ["row"]) rfl rfl rfl (by exact vk1 fun _ => rfl) rfl (by decide +kernel) fun sc hsc => ?_
  dsimp only [List.zip_cons_cons, List.zip_nil_left, List.zip_nil_right] at hsc ⊢
  cases r
  all_goals dsimp only [Row.pv] at *
  all_goals ((repeat' (first | fail "W" | fail "R")); (refine gT (by decide) (itemAt_of (by decide) rfl) ?_); (repeat' (first | fail "W" | fail "R")))
  all_goals first
    | exact ⟨rfl, rfl⟩
    | ((refine gT (by decide) (itemAt_of (by decide) rfl) ?_); (repeat' (first | fail "W" | fail "R")); exact ⟨rfl, rfl⟩)
    | skip
  (refine gT (by decide) (itemAt_of (by decide) rfl) ?_); (repeat' (first | fail "W" | fail "R"))
  (refine gT (by decide) (itemAt_of (by decide) rfl) ?_)
  unfold iTp
  refine bAT (by simp [Row.inner] at hl ⊢; omega) ?_
  (repeat' (first | fail "W" | fail "R"))
  exact ⟨rfl, rfl⟩

theorem row_sound (G : Good C mg mb) (ho : Our C p) (K : KT C H a A T) {k : Int} {r : Row} (h0 : 0 ≤ k) (hr : T.rows[k.toNat]? = some r) (hl : T.rows.length ≤ 1000) :
    CodeP C 1 (.ref 69) [.val (.ref a), .int k] H (fun q H' => H' = H ∧ q = .tup r.pv) := by
  have hlt := (List.getElem?_eq_some_iff.mp hr).1
  refine our_call G ho (ps := ["self", "k"]) rfl rfl rfl (by exact vk2 fun _ _ => rfl) rfl (by decide +kernel) fun sc hsc => ?_
  dsimp only [List.zip_cons_cons, List.zip_nil_left, List.zip_nil_right] at hsc ⊢
  (repeat' (first | fail "W" | fail "R"))
  refine fLenL K.rows (by simp; omega) ?_
  rw [List.length_map]
  (repeat' (first | fail "W" | fail "R"))
  refine gL K.rows (by omega) (itemAt_of h0 (by rw [List.getElem?_map, hr]; rfl)) ?_
  (repeat' (first | fail "W" | fail "R"))
  exact ⟨rfl, rfl⟩
end
end
section
open PySem PySem.W PySem.Calls PyProof.Rows
open scoped Classical

noncomputable def Stands (T : Tab) (k : Int) : Prop := k ≠ 0 ∧ k ≠ 14 ∧ 0 ≤ k ∧ ∃ r, T.rows[k.toNat]? = some r ∧ (r.sort ≤ 4 ∨ r.sort = 6 ∨ r.sort = 7)
theorem pv0 (r : Row) : itemAt r.pv 0 = some (.int r.sort) := by cases r <;> rfl

section
variable {C : Ctx} {p : Params} {mg mb : PySem.Str → Option Value} {H : AH} {a : Addr} {A : KA} {T : Tab}

theorem value_sound (G : Good C mg mb) (ho : Our C p) (K : KT C H a A T) {k : Int} {t : Int} {as : List Int} (h0 : 0 ≤ k) (hr : T.rows[k.toNat]? = some (.vlu t as)) (hl : T.rows.length ≤ 1000) :
    CodeP C 2 (.ref 216) [.val (.ref a), .int k] H (fun q H' => H' = H ∧ q = .bool true) := by
  refine our_call G ho (ps := ["kt", "k"]) rfl rfl rfl (by exact vk2 fun _ _ => rfl) rfl (by decide +kernel) fun sc hsc => ?_
  dsimp only [List.zip_cons_cons, List.zip_nil_left, List.zip_nil_right] at hsc ⊢
  (repeat' (first | fail "W" | fail "R"))
  · exact ⟨rfl, rfl⟩
  all_goals
    (refine cUse (row_sound G ho K h0 hr hl) (by omega) (elA ?_); (repeat' (first | fail "W" | fail "R"))
     refine gT (by omega) (pv0 _) ?_; (repeat' (first | fail "W" | fail "R")); exact ⟨rfl, by simp [Row.sort]⟩)

theorem stand_sound (G : Good C mg mb) (ho : Our C p) (K : KT C H a A T) {k : Int} (hs : Stands T k) (hl : T.rows.length ≤ 1000) :
    CodeP C 2 (.ref 132) [.val (.ref a), .int k] H (fun q H' => H' = H ∧ q = .bool true) := by
  obtain ⟨n0, n14, h0, r, hr, hsort⟩ := hs
  refine our_call G ho (ps := ["kt", "k"]) rfl rfl rfl (by exact vk2 fun _ _ => rfl) rfl (by decide +kernel) fun sc hsc => ?_
  dsimp only [List.zip_cons_cons, List.zip_nil_left, List.zip_nil_right] at hsc ⊢
  (repeat' (first | fail "W" | fail "R"))
  refine cUse (row_sound G ho K h0 hr hl) (by omega) (elA ?_)
  (repeat' (first | fail "W" | fail "R"))
  refine gT (by omega) (pv0 _) ?_
  (repeat' (first | fail "W" | fail "R"))
  all_goals (refine ⟨rfl, ?_⟩; congr 1; simp only [decide_eq_true_eq]; omega)

theorem args_ok_sound (G : Good C mg mb) (ho : Our C p) (K : KT C H a A T) {as : List Int} (hs : ∀ x ∈ as, Stands T x) (hl : T.rows.length ≤ 1000) :
    CodeP C 3 (.ref 125) [.val (.ref a), iTp as] H (fun q H' => H' = H ∧ q = .none) := by
  refine our_call G ho (ps := ["kt", "args"]) rfl rfl rfl (by exact vk2 fun _ _ => rfl) rfl (by decide +kernel) fun sc hsc => ?_
  dsimp only [List.zip_cons_cons, List.zip_nil_left, List.zip_nil_right] at hsc ⊢
  (repeat' (first | fail "W" | fail "R"))
  refine itT ?_
  refine loopI (I := fun i m H' => H' = H ∧ ∃ l2, Only l2 ["arg"] ∧ m = L (("kt", .val (.ref a)) :: ("args", iTp as) :: l2)) ⟨rfl, [], Only.nil, rfl⟩ (fun _ _ _ _ _ => trivial) ?_ ?_
  · rintro i q m H' K' hq ⟨rfl, l2, hl2, rfl⟩ kn _
    rw [List.getElem?_map] at hq
    obtain ⟨x, hx, rfl⟩ := Option.map_eq_some_iff.mp hq
    have hsx := hs x (List.mem_of_getElem? hx)
    (repeat' (first | fail "W" | fail "R")); (repeat' (first | fail "W" | fail "R"))
    refine cUse (stand_sound G ho K hsx hl) (by omega) (elA ?_); (repeat' (first | fail "W" | fail "R"))
    exact kn _ _ ⟨rfl, _, hl2.upd (by decide), rfl⟩
  · rintro m H' ⟨rfl, l2, hl2, rfl⟩
    (repeat' (first | fail "W" | fail "R"))
    exact ⟨rfl, rfl⟩
end

section
variable {C : Ctx} {p : Params} {mg mb : PySem.Str → Option Value} {H : AH} {a : Addr} {A : KA} {T : Tab}

/-- what a row must be to be taken -/
noncomputable def RowOk (T : Tab) : Row → Prop
  | .prim _ => False
  | .cls t as => t ∈ tids ∧ (∀ x ∈ as, Stands T x) ∧ as.length ≤ 50
  | .vlu t as => t ∈ tids ∧ (∀ x ∈ as, Stands T x) ∧ as.length ≤ 50
  | .arr k => Stands T k
  | .byr k => Stands T k
  | .var i => i ∈ places
  | .mvar i => i ∈ places
  | .box k => 0 ≤ k ∧ ∃ t as, T.rows[k.toNat]? = some (.vlu t as)
  | .ror k => Stands T k
  | .ftn o m as => Stands T o ∧ m ∈ mids ∧ (∀ x ∈ as, Stands T x) ∧ as.length ≤ 50
  | .raw k => Stands T k
theorem RowOk.num {T : Tab} {r : Row} (h : RowOk T r) : r.Num ∧ ∀ n, r ≠ .prim n := by
  cases r <;> first | exact h.elim | exact ⟨h.1, fun _ e => nomatch e⟩ | exact ⟨h, fun _ e => nomatch e⟩ | exact ⟨h.2.1, fun _ e => nomatch e⟩ | exact ⟨trivial, fun _ e => nomatch e⟩
theorem RowOk.inner {T : Tab} {r : Row} (h : RowOk T r) : (∀ x ∈ r.inner, 0 ≤ x ∧ ∃ q, T.rows[x.toNat]? = some q) ∧ r.inner.length ≤ 100 := by
  have st : ∀ {x}, Stands T x → 0 ≤ x ∧ ∃ q, T.rows[x.toNat]? = some q := fun h => ⟨h.2.2.1, let ⟨r, hr, _⟩ := h.2.2.2; ⟨r, hr⟩⟩
  cases r with
  | prim _ => exact h.elim
  | cls t as => exact ⟨fun x hx => st (h.2.1 x hx), Nat.le_trans h.2.2 (by decide)⟩
  | vlu t as => exact ⟨fun x hx => st (h.2.1 x hx), Nat.le_trans h.2.2 (by decide)⟩
  | var i => exact ⟨fun x hx => (nomatch hx), by simp [Row.inner]⟩
  | mvar i => exact ⟨fun x hx => (nomatch hx), by simp [Row.inner]⟩
  | box k => exact ⟨fun x hx => by simp only [Row.inner, List.mem_singleton] at hx; subst hx; exact ⟨h.1, let ⟨t, as, e⟩ := h.2; ⟨_, e⟩⟩, by simp [Row.inner]⟩
  | ftn o m as => exact ⟨fun x hx => by
      rcases List.mem_cons.mp hx with rfl | hx
      · exact st h.1
      · exact st (h.2.2.1 x hx), by have := h.2.2.2; simp [Row.inner]; omega⟩
  | arr k => exact ⟨fun x hx => by simp only [Row.inner, List.mem_singleton] at hx; subst hx; exact st h, by simp [Row.inner]⟩
  | byr k => exact ⟨fun x hx => by simp only [Row.inner, List.mem_singleton] at hx; subst hx; exact st h, by simp [Row.inner]⟩
  | ror k => exact ⟨fun x hx => by simp only [Row.inner, List.mem_singleton] at hx; subst hx; exact st h, by simp [Row.inner]⟩
  | raw k => exact ⟨fun x hx => by simp only [Row.inner, List.mem_singleton] at hx; subst hx; exact st h, by simp [Row.inner]⟩

theorem named_sound (G : Good C mg mb) (ho : Our C p) (K : KT C H a A T) {s t : Int} {as : List Int} (ht : 0 < t ∧ tidPrim t = none) (hs : ∀ x ∈ as, Stands T x) (hl : T.rows.length ≤ 1000) :
    CodeP C 4 (.ref 118) [.val (.ref a), .tup [.int s, .int t, iTp as]] H (fun q H' => H' = H ∧ q = .none) := by
  refine our_call G ho (ps := ["kt", "row"]) rfl rfl rfl (by exact vk2 fun _ _ => rfl) rfl (by decide +kernel) fun sc hsc => ?_
  dsimp only [List.zip_cons_cons, List.zip_nil_left, List.zip_nil_right] at hsc ⊢
  (repeat' (first | fail "W" | fail "R"))
  refine gT (by decide) (itemAt_of (by decide) rfl) ?_
  (repeat' (first | fail "W" | fail "R"))
  refine gT (by decide) (itemAt_of (by decide) rfl) ?_
  (repeat' (first | fail "W" | fail "R"))
  refine cInF (f := tidPrim) (by rw [ho.fd]; rfl) ?_
  (repeat' (first | fail "W" | fail "R"))
  refine spIn ht.2 ?_
  (repeat' (first | fail "W" | fail "R"))
  refine gT (by decide) (itemAt_of (by decide) rfl) ?_
  (repeat' (first | fail "W" | fail "R"))
  refine cUse (args_ok_sound G ho K hs hl) (by omega) (elA ?_)
  (repeat' (first | fail "W" | fail "R"))
  exact ⟨rfl, rfl⟩

theorem check_sound (G : Good C mg mb) (ho : Our C p) (K : KT C H a A T) {r : Row} (hr : RowOk T r) (hl : T.rows.length ≤ 1000) :
    CodeP C 6 (.ref 111) [.val (.ref a), .tup r.pv] H (fun q H' => H' = H ∧ q = .none) := by
  have hin := hr.inner
  have hs1 : 1 < r.sort ∧ r.sort ≤ 11 := by cases r <;> first | exact hr.elim | (simp [Row.sort])
  have hpl : (if r.sort = 2 ∨ r.sort = 3 then (3 : Int) else if r.sort = 10 then 4 else 2) = (r.pv.length : Int) := by cases r <;> rfl
  have hp0 : r.pv.length ≠ 0 ∧ r.pv.length ≤ 4 := by cases r <;> simp [Row.pv]
  refine our_call G ho (ps := ["kt", "row"]) rfl rfl rfl (by exact vk2 fun _ _ => rfl) rfl (by decide +kernel) fun sc hsc => ?_
  dsimp only [List.zip_cons_cons, List.zip_nil_left, List.zip_nil_right] at hsc ⊢
  (repeat' (first | fail "W" | fail "R"))
  refine fLenT (by omega) ?_
  (repeat' (first | fail "W" | fail "R"))
  refine gT (by omega) (pv0 r) ?_
  (repeat' (first | fail "W" | fail "R"))
  refine gT (by omega) (pv0 r) ?_
  (repeat' (first | fail "W" | fail "R"))
  refine gT (by omega) (pv0 r) ?_
  (repeat' (first | fail "W" | fail "R"))
  refine fLenT (by omega) ?_
  (repeat' (first | fail "W" | fail "R"))
  refine cUse (length_sound G ho _) (by omega) (elA ?_)
  rw [hpl]
  (repeat' (first | fail "W" | fail "R"))
  refine cUse (inner_sound G ho r hin.2) (by omega) (elA ?_)
  refine itT ?_
  refine loopI (I := fun i m H' => H' = H ∧ ∃ l2, Only l2 ["inner"] ∧ m = L (("kt", .val (.ref a)) :: ("row", .tup r.pv) :: ("sort", .int r.sort) :: l2)) ⟨rfl, [], Only.nil, rfl⟩ (fun _ _ _ _ _ => trivial) ?_ ?_
  · rintro i q m H' K' hq ⟨rfl, l2, hl2, rfl⟩ kn _
    rw [List.getElem?_map] at hq
    obtain ⟨x, hx, rfl⟩ := Option.map_eq_some_iff.mp hq
    obtain ⟨x0, q, hq2⟩ := hin.1 x (List.mem_of_getElem? hx)
    (repeat' (first | fail "W" | fail "R"))
    refine cUse (row_sound G ho K x0 hq2 hl) (by omega) (elA ?_); (repeat' (first | fail "W" | fail "R"))
    exact kn _ _ ⟨rfl, _, hl2.upd (by decide), rfl⟩
  · rintro m H' ⟨rfl, l2, hl2, rfl⟩
    cases r
    case prim => exact hr.elim
    case cls =>
      (dsimp only [Row.sort, Row.pv] at *; (repeat' (first | fail "W" | fail "R"))
       refine cUse (named_sound G ho K (tids_ok _ hr.1) hr.2.1 hl) (by omega) (elA ?_); (repeat' (first | fail "W" | fail "R")); exact ⟨rfl, rfl⟩)
    case vlu =>
      (dsimp only [Row.sort, Row.pv] at *; (repeat' (first | fail "W" | fail "R"))
       refine cUse (named_sound G ho K (tids_ok _ hr.1) hr.2.1 hl) (by omega) (elA ?_); (repeat' (first | fail "W" | fail "R")); exact ⟨rfl, rfl⟩)
    case var i =>
      have hr' : 0 ≤ i := places_ok _ hr
      (dsimp only [Row.sort, Row.pv] at *; (repeat' (first | fail "W" | fail "R"))
       refine gT (by decide) (itemAt_of (by decide) rfl) ?_; (repeat' (first | fail "W" | fail "R")); exact ⟨rfl, rfl⟩)
    case mvar i =>
      have hr' : 0 ≤ i := places_ok _ hr
      (dsimp only [Row.sort, Row.pv] at *; (repeat' (first | fail "W" | fail "R"))
       refine gT (by decide) (itemAt_of (by decide) rfl) ?_; (repeat' (first | fail "W" | fail "R")); exact ⟨rfl, rfl⟩)
    case ftn o mm as =>
      obtain ⟨h1, h2', h3, h4⟩ := hr
      have h2 := mids_ok _ h2'
      (dsimp only [Row.sort, Row.pv] at *; (repeat' (first | fail "W" | fail "R"))
       refine gT (by decide) (itemAt_of (by decide) rfl) ?_; (repeat' (first | fail "W" | fail "R"))
       refine cUse (stand_sound G ho K h1 hl) (by omega) (elA ?_); (repeat' (first | fail "W" | fail "R"))
       refine gT (by decide) (itemAt_of (by decide) rfl) ?_; (repeat' (first | fail "W" | fail "R"))
       refine gT (by decide) (itemAt_of (by decide) rfl) ?_; (repeat' (first | fail "W" | fail "R"))
       refine cUse (args_ok_sound G ho K h3 hl) (by omega) (elA ?_); (repeat' (first | fail "W" | fail "R")); exact ⟨rfl, rfl⟩)
    case box k =>
      obtain ⟨h1, t, as, h2⟩ := hr
      (dsimp only [Row.sort, Row.pv] at *; (repeat' (first | fail "W" | fail "R"))
       refine gT (by decide) (itemAt_of (by decide) rfl) ?_; (repeat' (first | fail "W" | fail "R"))
       refine cUse (value_sound G ho K h1 h2 hl) (by omega) (elA ?_); (repeat' (first | fail "W" | fail "R")); exact ⟨rfl, rfl⟩)
    all_goals
      (dsimp only [Row.sort, Row.pv] at *; (repeat' (first | fail "W" | fail "R"))
       refine gT (by decide) (itemAt_of (by decide) rfl) ?_; (repeat' (first | fail "W" | fail "R"))
       refine cUse (stand_sound G ho K hr hl) (by omega) (elA ?_); (repeat' (first | fail "W" | fail "R")); exact ⟨rfl, rfl⟩)
end
end
section
open PySem PySem.W PySem.Calls PyProof.Rows
open scoped Classical

/-- a row of the law's own list -/
structure Node where
  tid : Int
  parts : List Int
  word : PySem.Str
noncomputable def Node.pv (x : Node) : PV := .tup [.int x.tid, iTp x.parts, .str x.word]

/-- the law's node j against the kind laid for it -/
noncomputable def NodeOk (T : Tab) (laid : List Int) (j : Nat) (x : Node) : Prop :=
  (x.tid = 0 ∧ x.parts = [] ∧ ∃ r, T.rows[(laid.getD j 0).toNat]? = some r ∧ r.inner = [] ∧ ∀ nm prev lev, rowText nm prev lev r = x.word) ∨
  (x.tid = -1 ∧ ∃ y : Nat, y < j ∧ x.parts = [(y : Int)] ∧ T.rows[(laid.getD j 0).toNat]? = some (.arr (laid.getD y 0))) ∨
  (x.tid ∈ tids ∧ (∀ y ∈ x.parts, 0 ≤ y ∧ y < j) ∧ x.parts.length ≤ 50 ∧ (T.rows[(laid.getD j 0).toNat]? = some (.cls x.tid (x.parts.map fun y => laid.getD y.toNat 0)) ∨ T.rows[(laid.getD j 0).toNat]? = some (.vlu x.tid (x.parts.map fun y => laid.getD y.toNat 0))))

structure Laid (T : Tab) (laid : List Int) (nodes : List Node) : Prop where
  ok : T.Ok
  len : laid.length = nodes.length
  small : laid.length ≤ 100
  st : ∀ k ∈ laid, Stands T k
  node : ∀ (j : Nat) x, nodes[j]? = some x → NodeOk T laid j x

theorem Stands.ext {T T' : Tab} (h : Ext T T') {k : Int} (s : Stands T k) : Stands T' k := ⟨s.1, s.2.1, s.2.2.1, let ⟨r, e, q⟩ := s.2.2.2; ⟨r, prefix_get h.rows e, q⟩⟩
theorem NodeOk.ext {T T' : Tab} (h : Ext T T') {laid : List Int} {j : Nat} {x : Node} (s : NodeOk T laid j x) : NodeOk T' laid j x := by
  rcases s with ⟨h1, h2, r, e, q⟩ | ⟨h1, y, h2, h3, e⟩ | ⟨h1, h2, h3, e⟩
  · exact .inl ⟨h1, h2, r, prefix_get h.rows e, q⟩
  · exact .inr (.inl ⟨h1, y, h2, h3, prefix_get h.rows e⟩)
  · exact .inr (.inr ⟨h1, h2, h3, e.imp (prefix_get h.rows) (prefix_get h.rows)⟩)
theorem getD_snoc {l : List Int} {k : Int} {j : Nat} (h : j < l.length) : (l ++ [k]).getD j 0 = l.getD j 0 := by
  rw [List.getD_eq_getElem?_getD, List.getD_eq_getElem?_getD, List.getElem?_append_left h]
theorem NodeOk.snoc {T : Tab} {laid : List Int} {k : Int} {j : Nat} {x : Node} (hj : j < laid.length) (s : NodeOk T laid j x) : NodeOk T (laid ++ [k]) j x := by
  have ej := getD_snoc (k := k) hj
  rcases s with ⟨h1, h2, r, e, q⟩ | ⟨h1, y, h2, h3, e⟩ | ⟨h1, h2, h3, e⟩
  · exact .inl ⟨h1, h2, r, by rw [ej]; exact e, q⟩
  · exact .inr (.inl ⟨h1, y, h2, h3, by rw [ej, getD_snoc (by omega)]; exact e⟩)
  · refine .inr (.inr ⟨h1, h2, h3, ?_⟩)
    have em : x.parts.map (fun y => (laid ++ [k]).getD y.toNat 0) = x.parts.map fun y => laid.getD y.toNat 0 := List.map_congr_left fun y hy => getD_snoc (by have := h2 y hy; omega)
    rw [ej, em]; exact e
/-- one more node -/
theorem Laid.snoc {T T' : Tab} {laid : List Int} {nodes : List Node} (h : Laid T laid nodes) (ok' : T'.Ok) (ex : Ext T T') {k : Int} {x : Node} (hs : Stands T' k) (hx : NodeOk T' (laid ++ [k]) laid.length x) (hl : laid.length + 1 ≤ 100) : Laid T' (laid ++ [k]) (nodes ++ [x]) := by
  refine ⟨ok', by simp [h.len], by simpa using hl, fun q hq => ?_, fun j y hy => ?_⟩
  · rcases List.mem_append.mp hq with hq | hq
    · exact (h.st q hq).ext ex
    · simp only [List.mem_singleton] at hq; subst hq; exact hs
  · rcases Nat.lt_or_ge j nodes.length with hj | hj
    · rw [List.getElem?_append_left hj] at hy
      exact ((h.node j y hy).ext ex).snoc (by rw [h.len]; exact hj)
    · rw [List.getElem?_append_right hj] at hy
      have h0 : j - nodes.length = 0 := by
        cases hd : j - nodes.length with
        | zero => rfl
        | succ i => rw [hd] at hy; simp at hy
      rw [h0] at hy
      simp at hy
      subst hy
      have : j = laid.length := by rw [h.len]; omega
      subst this
      exact hx
theorem Laid.ext {T T' : Tab} {laid : List Int} {nodes : List Node} (h : Laid T laid nodes) (ok' : T'.Ok) (ex : Ext T T') : Laid T' laid nodes := ⟨ok', h.len, h.small, fun k hk => (h.st k hk).ext ex, fun j x hx => (h.node j x hx).ext ex⟩
theorem Laid.lt {T : Tab} {laid : List Int} {nodes : List Node} (h : Laid T laid nodes) {j : Nat} (hj : j < laid.length) : 0 ≤ laid.getD j 0 ∧ (laid.getD j 0).toNat < T.rows.length := by
  have hm : laid.getD j 0 ∈ laid := by rw [List.getD_eq_getElem?_getD, List.getElem?_eq_getElem hj]; exact List.getElem_mem _
  obtain ⟨_, _, h0, r, hr, _⟩ := h.st _ hm
  exact ⟨h0, (List.getElem?_eq_some_iff.mp hr).1⟩

/-- the text of a node at a level, as the law makes it -/
theorem node_text {T : Tab} {laid : List Int} {nodes : List Node} (h : Laid T laid nodes) (nm : Int → Option PySem.Str) {j : Nat} {x : Node} (hx : nodes[j]? = some x) (lev : Nat) :
    TX nm T.rows (laid.getD j 0) lev =
      if x.tid < 0 then TX nm T.rows (laid.getD (x.parts.getD 0 0).toNat 0) lev ++ S "[]"
      else if 0 < x.tid then nameText nm x.tid ++ argsText (fun y l => TX nm T.rows (laid.getD y.toNat 0) l) x.parts lev
      else x.word := by
  rcases h.node j x hx with ⟨h1, h2, r, e, hi, q⟩ | ⟨h1, y, h2, h3, e⟩ | ⟨h1, h2, h3, e⟩
  · rw [TX_eq h.ok.inn e, q, if_neg (by omega), if_neg (by omega)]
  · rw [TX_eq h.ok.inn e, if_pos (by omega), h3]; rfl
  · have ht := tids_ok _ h1
    have em : ∀ l, argsText (TX nm T.rows) (x.parts.map fun y => laid.getD y.toNat 0) l = argsText (fun y l => TX nm T.rows (laid.getD y.toNat 0) l) x.parts l := fun l => by
      unfold argsText
      rw [List.map_map]
      by_cases hp : x.parts = []
      · rw [hp]; rfl
      · rw [if_neg hp, if_neg (by simpa using hp)]; rfl
    rcases e with e | e <;> rw [TX_eq h.ok.inn e, if_neg (by omega), if_pos ht.1] <;> simp only [rowText] <;> rw [em]
end
section
open PySem PySem.W PySem.Calls PyProof.Rows
open scoped Classical

theorem spIJ {o : Option PV} {X Y Z : Prop} (h1 : ∀ p, o = some p → (Unit → Z) → X) (h2 : o = none → (Unit → Z) → Y) (z : Z) : (o.isSome = true → X) ∧ (o.isSome = false → Y) := spI (fun p h => h1 p h fun _ => z) (fun h => h2 h fun _ => z)
theorem freeL_nil (sc : Scope) : freeL sc [] = [] := rfl
theorem freeL_pos {sc : Scope} {a : String} {q : PV} {r : List (String × PV)} (h : sc.names.lookup (Str.ofString a) = some .free) : freeL sc ((a, q) :: r) = (a, q) :: freeL sc r := by
  unfold freeL; rw [List.filter_cons_of_pos (by simpa using h)]
theorem freeL_neg {sc : Scope} {a : String} {q : PV} {r : List (String × PV)} (h : ¬ sc.names.lookup (Str.ofString a) = some .free) : freeL sc ((a, q) :: r) = freeL sc r := by
  unfold freeL; rw [List.filter_cons_of_neg (by simpa using h)]
/-- a comprehension whose elements change nothing, item by item -/
theorem compM {B : PV → AH → (PV → AH → Prop) → Prop} {chk : AH → Prop} {items : List PV} {H : AH} {Q : List PV → AH → Prop} (f : PV → PV) (hc : chk H)
    (step : ∀ p K, p ∈ items → K (f p) H → B p H K) (fin : Q (items.map f) H) : awComp B chk items H [] Q := by
  refine compI (I := fun i acc H' => H' = H ∧ acc = (items.take i).map f) ⟨rfl, by simp⟩ (fun i acc H' _ h => h.1 ▸ hc) (fun i p acc H' K hp ⟨e1, e2⟩ k => ?_) (fun acc H' ⟨e1, e2⟩ => ?_)
  · subst e1 e2
    refine step p K (List.mem_of_getElem? hp) (k _ _ ⟨rfl, ?_⟩)
    rw [List.take_add_one, hp]; simp
  · subst e1 e2
    rw [List.take_length]; exact fin
theorem down_get {i : Nat} {p : PV} (h : (rngItems 8 (-1) (-1))[i]? = some p) : p = .int (8 - (i : Int)) ∧ i ≤ 8 := by
  unfold rngItems at h
  rw [List.getElem?_map] at h
  obtain ⟨j, hj, rfl⟩ := Option.map_eq_some_iff.mp h
  obtain ⟨hlt, hj⟩ := List.getElem?_eq_some_iff.mp hj
  rw [List.getElem_range] at hj
  subst hj
  have : (Builtin.Range.rangeSize 8 (-1) (-1)).toNat = 9 := by decide
  rw [List.length_range, this] at hlt
  exact ⟨by congr 1; omega, by omega⟩
theorem down_len : (rngItems 8 (-1) (-1)).length = 9 := by decide
noncomputable def wordsL (nm : Int → Option PySem.Str) (T : Tab) (laid : List Int) (lev : Nat) : List PV := laid.map fun k => .str (TX nm T.rows k lev)
theorem wordsL_get {nm : Int → Option PySem.Str} {T : Tab} {laid : List Int} {lev j : Nat} (h : j < laid.length) : (wordsL nm T laid lev)[j]? = some (.str (TX nm T.rows (laid.getD j 0) lev)) := by
  unfold wordsL
  rw [List.getElem?_map, List.getElem?_eq_getElem h, List.getD_eq_getElem?_getD, List.getElem?_eq_getElem h]; rfl
theorem wordsL_take {nm : Int → Option PySem.Str} {T : Tab} {laid : List Int} {lev j : Nat} (h : j < laid.length) : (wordsL nm T laid lev).take (j + 1) = (wordsL nm T laid lev).take j ++ [.str (TX nm T.rows (laid.getD j 0) lev)] := by
  rw [List.take_add_one, wordsL_get h]; rfl
end
section
open PySem PySem.W PySem.Calls PyProof.Rows
open scoped Classical

/-- the law's lists and the table -/
structure LS (C : Ctx) (H : AH) (a : Addr) (A : KA) (T : Tab) (al ar : Addr) (laid : List Int) (nodes : List Node) : Prop where
  K : KT C H a A T
  L : Laid T laid nodes
  rl : T.rows.length ≤ 16 + 2 * laid.length
  hl : H al = some (.list (laid.map .int))
  hr : H ar = some (.list (nodes.map Node.pv))
  ne : ∀ b ∈ [a, A.d, A.r, A.i, A.p, A.w, A.o], b ≠ al ∧ b ≠ ar
  na : al ≠ ar
  pb : ∀ k : Nat, k < 16 → T.rows[k]? = some (.prim k)
noncomputable def wts (T : Tab) (k : Int) : Int := T.wei.getD k.toNat 0
noncomputable def dps (T : Tab) (k : Int) : Int := T.dep.getD k.toNat 0
theorem Ext.wts {T T' : Tab} (x : Ext T T') {k : Int} (h : k.toNat < T.wei.length) : wts T' k = wts T k := by
  unfold Mine.wts
  rw [List.getD_eq_getElem?_getD, List.getD_eq_getElem?_getD, List.getElem?_eq_getElem h, prefix_get x.wei (List.getElem?_eq_getElem h)]
theorem Ext.dps {T T' : Tab} (x : Ext T T') {k : Int} (h : k.toNat < T.dep.length) : dps T' k = dps T k := by
  unfold Mine.dps
  rw [List.getD_eq_getElem?_getD, List.getD_eq_getElem?_getD, List.getElem?_eq_getElem h, prefix_get x.dep (List.getElem?_eq_getElem h)]
/-- the lists grown by one node -/
theorem LS.grow {C : Ctx} {H H1 : AH} {a : Addr} {A : KA} {T T' : Tab} {al ar : Addr} {laid : List Int} {nodes : List Node} (h : LS C H a A T al ar laid nodes) (K1 : KT C H1 a A T') (ok' : T'.Ok) (ex : Ext T T') (hr1 : T'.rows.length ≤ T.rows.length + 2)
    {k : Int} {x : Node} (hs : Stands T' k) (hx : NodeOk T' (laid ++ [k]) laid.length x) (hl : laid.length + 1 ≤ 100) (h1r : H1 ar = some (.list (nodes.map Node.pv))) :
    LS C ((H1.set al (.list (laid.map .int ++ [.int k]))).set ar (.list (nodes.map Node.pv ++ [x.pv]))) a A T' al ar (laid ++ [k]) (nodes ++ [x]) := by
  refine ⟨?_, h.L.snoc ok' ex hs hx hl, by have := h.rl; simp; omega, ?_, by rw [hset]; simp, h.ne, h.na, fun k hk => prefix_get ex.rows (h.pb k hk)⟩
  · refine (K1.same (S := [al]) Same.set fun b hb q => ?_).same (S := [ar]) Same.set fun b hb q => ?_
    · exact (h.ne b hb).1 (by simpa using q)
    · exact (h.ne b hb).2 (by simpa using q)
  · exact hset_ne h.na (by rw [hset]; simp)
theorem pick14 {i : Int} (h : 0 ≤ i ∧ i < 14) : ∃ k : Nat, ([.int 1, .int 2, .int 3, .int 4, .int 5, .int 6, .int 7, .int 8, .int 9, .int 10, .int 11, .int 12, .int 13, .int 15] : List PV)[i.toNat]? = some (.int (k : Int)) ∧ k < 16 ∧ k ≠ 0 ∧ k ≠ 14 := by
  obtain ⟨n, rfl⟩ := Int.eq_ofNat_of_zero_le h.1
  have hn : n < 14 := by omega
  rw [Int.toNat_natCast]
  clear h
  match n, hn with
  | 0, _ => exact ⟨1, rfl, by decide, by decide, by decide⟩
  | 1, _ => exact ⟨2, rfl, by decide, by decide, by decide⟩
  | 2, _ => exact ⟨3, rfl, by decide, by decide, by decide⟩
  | 3, _ => exact ⟨4, rfl, by decide, by decide, by decide⟩
  | 4, _ => exact ⟨5, rfl, by decide, by decide, by decide⟩
  | 5, _ => exact ⟨6, rfl, by decide, by decide, by decide⟩
  | 6, _ => exact ⟨7, rfl, by decide, by decide, by decide⟩
  | 7, _ => exact ⟨8, rfl, by decide, by decide, by decide⟩
  | 8, _ => exact ⟨9, rfl, by decide, by decide, by decide⟩
  | 9, _ => exact ⟨10, rfl, by decide, by decide, by decide⟩
  | 10, _ => exact ⟨11, rfl, by decide, by decide, by decide⟩
  | 11, _ => exact ⟨12, rfl, by decide, by decide, by decide⟩
  | 12, _ => exact ⟨13, rfl, by decide, by decide, by decide⟩
  | 13, _ => exact ⟨15, rfl, by decide, by decide, by decide⟩
  | n + 14, h => omega
theorem stands_new {T : Tab} (pb : ∀ k : Nat, k < 16 → T.rows[k]? = some (.prim k)) {k : Nat} {r : Row} (hr : T.rows[k]? = some r) (hn : ∀ n, r ≠ .prim n) (hs : r.sort ≤ 4 ∨ r.sort = 6 ∨ r.sort = 7) : Stands T (k : Int) := by
  have h16 : ¬ k < 16 := fun h => by rw [pb k h] at hr; cases hr; exact hn _ rfl
  exact ⟨by omega, by omega, by omega, r, by simpa using hr, hs⟩
theorem getD_last (l : List Int) (k : Int) : (l ++ [k]).getD l.length 0 = k := by simp
theorem wts_at {T : Tab} (hT : T.Ok) {k : Nat} {r : Row} (hr : T.rows[k]? = some r) : wts T (k : Int) = weiOf T.wei r ∧ dps T (k : Int) = depOf T.dep r := by
  unfold wts dps
  rw [Int.toNat_natCast, List.getD_eq_getElem?_getD, List.getD_eq_getElem?_getD, (hT.dw k r hr).1, (hT.dw k r hr).2]
  exact ⟨rfl, rfl⟩
end
section
open PySem PySem.W PySem.Calls PyProof.Rows
open scoped Classical

noncomputable def wb : Nat → Int
  | 0 => 1
  | 1 => 1
  | n + 2 => 2 + wb (n + 1) + wb n
theorem wb_pos : ∀ n, 1 ≤ wb n ∧ wb n ≤ wb (n + 1)
  | 0 => by decide
  | 1 => by decide
  | n + 2 => by
    have h1 := wb_pos (n + 1)
    have h2 := wb_pos n
    rw [wb, wb]
    have e : wb (n + 2) = 2 + wb (n + 1) + wb n := rfl
    omega
theorem wb_mono {m : Nat} : ∀ {n : Nat}, m ≤ n → wb m ≤ wb n
  | 0, h => by have : m = 0 := by omega
               subst this; exact Int.le_refl _
  | n + 1, h => by
    rcases Nat.lt_or_ge m (n + 1) with h' | h'
    · exact Int.le_trans (wb_mono (by omega)) (wb_pos n).2
    · have : m = n + 1 := by omega
      subst this; exact Int.le_refl _
theorem wb14 : wb 14 = 1828 := by rfl

/-- the law's spine -/
structure SP (T : Tab) (laid : List Int) (spine : List Nat) : Prop where
  two : 2 ≤ spine.length
  len : laid.length + 2 ≤ 2 * spine.length
  lt : ∀ i ∈ spine, i < laid.length
  w : ∀ (i : Nat) s, spine[i]? = some s → wts T (laid.getD s 0) ≤ wb i ∧ dps T (laid.getD s 0) ≤ i + 1
  all : ∀ k ∈ laid, wts T k ≤ wb (spine.length - 1) ∧ dps T k ≤ spine.length

theorem SP.next {T T' : Tab} {laid : List Int} {nodes : List Node} {spine : List Nat} (h : SP T laid spine) (L : Laid T laid nodes) (ex : Ext T T') {lf : List Int} (hlf : lf.length ≤ 1) (hlw : ∀ k ∈ lf, wts T' k ≤ 1 ∧ dps T' k ≤ 1) {k : Int}
    (hw : wts T' k ≤ wb spine.length) (hd : dps T' k ≤ spine.length + 1) : SP T' (laid ++ lf ++ [k]) (spine ++ [laid.length + lf.length]) := by
  have two := h.two
  have len := h.len
  have tr : ∀ q ∈ laid, wts T' q = wts T q ∧ dps T' q = dps T q := fun q hq => by
    obtain ⟨_, _, _, r, hr, _⟩ := L.st q hq
    have hl := (List.getElem?_eq_some_iff.mp hr).1
    exact ⟨ex.wts (by rw [L.ok.lw]; exact hl), ex.dps (by rw [L.ok.ld]; exact hl)⟩
  have pos := wb_pos spine.length
  refine ⟨by simp; omega, by simp; omega, fun i hi => ?_, fun i s hs => ?_, fun q hq => ?_⟩
  · rcases List.mem_append.mp hi with hi | hi
    · have := h.lt i hi; simp; omega
    · simp only [List.mem_singleton] at hi; subst hi; simp
  · rcases Nat.lt_or_ge i spine.length with hi | hi
    · rw [List.getElem?_append_left hi] at hs
      have hsl := h.lt s (List.mem_of_getElem? hs)
      have e : (laid ++ lf ++ [k]).getD s 0 = laid.getD s 0 := by
        rw [List.getD_eq_getElem?_getD, List.getD_eq_getElem?_getD, List.append_assoc, List.getElem?_append_left hsl]
      have hm : laid.getD s 0 ∈ laid := by rw [List.getD_eq_getElem?_getD, List.getElem?_eq_getElem hsl]; exact List.getElem_mem _
      rw [e, (tr _ hm).1, (tr _ hm).2]
      exact h.w i s hs
    · rw [List.getElem?_append_right hi] at hs
      have hi0 : i = spine.length := by
        rcases Nat.lt_or_ge spine.length i with z | z
        · rw [List.getElem?_eq_none (by simp; omega)] at hs; cases hs
        · omega
      subst hi0
      simp at hs
      subst hs
      have e : (laid ++ lf ++ [k]).getD (laid.length + lf.length) 0 = k := by
        rw [← List.length_append]; exact getD_last _ _
      rw [e]
      exact ⟨hw, hd⟩
  · have e1 : (spine ++ [laid.length + lf.length]).length = spine.length + 1 := by simp
    rw [e1, Nat.add_sub_cancel]
    rcases List.mem_append.mp hq with hq | hq
    · rcases List.mem_append.mp hq with hq | hq
      · have := h.all q hq
        have m := wb_mono (m := spine.length - 1) (n := spine.length) (by omega)
        rw [(tr q hq).1, (tr q hq).2]
        omega
      · have := hlw q hq
        omega
    · simp only [List.mem_singleton] at hq
      subst hq
      omega

/-- a part of a kind to be laid -/
structure Arg (T : Tab) (laid : List Int) (i : Int) (W D : Int) : Prop where
  n0 : 0 ≤ i
  lt : i < laid.length
  w : wts T (laid.getD i.toNat 0) ≤ W
  d : dps T (laid.getD i.toNat 0) ≤ D
theorem SP.arg {T : Tab} {laid : List Int} {spine : List Nat} (h : SP T laid spine) {i s : Nat} (hs : spine[i]? = some s) : Arg T laid (s : Int) (wb i) (i + 1) :=
  ⟨by omega, by have := h.lt s (List.mem_of_getElem? hs); omega, by rw [Int.toNat_natCast]; exact (h.w i s hs).1, by rw [Int.toNat_natCast]; exact (h.w i s hs).2⟩
theorem Arg.mono {T : Tab} {laid : List Int} {i W D W' D' : Int} (h : Arg T laid i W D) (hw : W ≤ W') (hd : D ≤ D') : Arg T laid i W' D' := ⟨h.n0, h.lt, Int.le_trans h.w hw, Int.le_trans h.d hd⟩
theorem Arg.ext {T T' : Tab} {laid : List Int} {nodes : List Node} {i W D : Int} (h : Arg T laid i W D) (L : Laid T laid nodes) (ex : Ext T T') (lf : List Int) : Arg T' (laid ++ lf) i W D := by
  have hlt : i.toNat < laid.length := by have := h.lt; have := h.n0; omega
  have hl := (L.lt hlt).2
  have e : (laid ++ lf).getD i.toNat 0 = laid.getD i.toNat 0 := by rw [List.getD_eq_getElem?_getD, List.getD_eq_getElem?_getD, List.getElem?_append_left hlt]
  refine ⟨h.n0, by have := h.lt; simp; omega, ?_, ?_⟩ <;> rw [e]
  · rw [ex.wts (by rw [L.ok.lw]; exact hl)]; exact h.w
  · rw [ex.dps (by rw [L.ok.ld]; exact hl)]; exact h.d
theorem Laid.stands {T : Tab} {laid : List Int} {nodes : List Node} (L : Laid T laid nodes) {i W D : Int} (h : Arg T laid i W D) : Stands T (laid.getD i.toNat 0) := by
  have hlt : i.toNat < laid.length := by have := h.lt; have := h.n0; omega
  exact L.st _ (by rw [List.getD_eq_getElem?_getD, List.getElem?_eq_getElem hlt]; exact List.getElem_mem _)

noncomputable def stParts (x y z lf : Int) : Nat → List Int
  | 0 => [x]
  | 1 => [x, y]
  | 2 => [y, x]
  | 3 => [x]
  | 4 => [x]
  | 5 => [x, lf, z]
  | 6 => [lf, x]
  | _ => [z, x]
theorem pick8 (x y z lf : Int) {s : Int} (h : 0 ≤ s ∧ s < 8) : ([.tup [.int x], .tup [.int x, .int y], .tup [.int y, .int x], .tup [.int x], .tup [.int x], .tup [.int x, .int lf, .int z], .tup [.int lf, .int x], .tup [.int z, .int x]] : List PV)[s.toNat]? = some (iTp (stParts x y z lf s.toNat)) := by
  obtain ⟨n, rfl⟩ := Int.eq_ofNat_of_zero_le h.1
  have hn : n < 8 := by omega
  rw [Int.toNat_natCast]
  clear h
  match n, hn with
  | 0, _ => rfl
  | 1, _ => rfl
  | 2, _ => rfl
  | 3, _ => rfl
  | 4, _ => rfl
  | 5, _ => rfl
  | 6, _ => rfl
  | 7, _ => rfl
  | n + 8, h => omega

/-- the parts of a kind: in place, light, not deep -/
structure PartsOk (T : Tab) (laid : List Int) (ps : List Int) (W D : Int) : Prop where
  arg : ∀ i ∈ ps, Arg T laid i W D
  sum : (ps.map fun i => wts T (laid.getD i.toNat 0)).sum ≤ W
  len : ps.length ≤ 50
theorem parts_ok {T : Tab} {laid : List Int} {x y z lf : Int} {l : Nat} {s : Int} (h2 : 2 ≤ l) (hx : Arg T laid x (wb (l - 1)) l) (hy : Arg T laid y (wb (l - 2)) l) (hz : Arg T laid z (wb (l - 2)) l) (hs : 0 ≤ s ∧ s < 8) (hl : s = 5 ∨ s = 6 → Arg T laid lf 1 1) :
    PartsOk T laid (stParts x y z lf s.toNat) (1 + wb (l - 1) + wb (l - 2)) l := by
  have p1 := (wb_pos (l - 1)).1
  have p2 := (wb_pos (l - 2)).1
  have ax := hx.mono (W' := 1 + wb (l - 1) + wb (l - 2)) (D' := l) (by omega) (Int.le_refl _)
  have ay := hy.mono (W' := 1 + wb (l - 1) + wb (l - 2)) (D' := l) (by omega) (Int.le_refl _)
  have az := hz.mono (W' := 1 + wb (l - 1) + wb (l - 2)) (D' := l) (by omega) (Int.le_refl _)
  have wx := hx.w
  have wy := hy.w
  have wz := hz.w
  obtain ⟨n, rfl⟩ := Int.eq_ofNat_of_zero_le hs.1
  have hn : n < 8 := by omega
  rw [Int.toNat_natCast]
  have alf : n = 5 ∨ n = 6 → Arg T laid lf (1 + wb (l - 1) + wb (l - 2)) l ∧ wts T (laid.getD lf.toNat 0) ≤ 1 := fun h => by
    have := hl (by omega)
    exact ⟨this.mono (by omega) (by omega), this.w⟩
  clear hs hl
  match n, hn with
  | 0, _ => exact ⟨by simp only [stParts, List.mem_singleton, forall_eq]; exact ax, by simp only [stParts, List.map_cons, List.map_nil, List.sum_cons, List.sum_nil]; omega, by simp [stParts]⟩
  | 1, _ => exact ⟨by simp only [stParts, List.mem_cons, List.not_mem_nil, or_false, forall_eq_or_imp, forall_eq]; exact ⟨ax, ay⟩, by simp only [stParts, List.map_cons, List.map_nil, List.sum_cons, List.sum_nil]; omega, by simp [stParts]⟩
  | 2, _ => exact ⟨by simp only [stParts, List.mem_cons, List.not_mem_nil, or_false, forall_eq_or_imp, forall_eq]; exact ⟨ay, ax⟩, by simp only [stParts, List.map_cons, List.map_nil, List.sum_cons, List.sum_nil]; omega, by simp [stParts]⟩
  | 3, _ => exact ⟨by simp only [stParts, List.mem_singleton, forall_eq]; exact ax, by simp only [stParts, List.map_cons, List.map_nil, List.sum_cons, List.sum_nil]; omega, by simp [stParts]⟩
  | 4, _ => exact ⟨by simp only [stParts, List.mem_singleton, forall_eq]; exact ax, by simp only [stParts, List.map_cons, List.map_nil, List.sum_cons, List.sum_nil]; omega, by simp [stParts]⟩
  | 5, _ =>
    obtain ⟨h1, h3⟩ := alf (.inl rfl)
    exact ⟨by simp only [stParts, List.mem_cons, List.not_mem_nil, or_false, forall_eq_or_imp, forall_eq]; exact ⟨ax, h1, az⟩, by simp only [stParts, List.map_cons, List.map_nil, List.sum_cons, List.sum_nil]; omega, by simp [stParts]⟩
  | 6, _ =>
    obtain ⟨h1, h3⟩ := alf (.inr rfl)
    exact ⟨by simp only [stParts, List.mem_cons, List.not_mem_nil, or_false, forall_eq_or_imp, forall_eq]; exact ⟨h1, ax⟩, by simp only [stParts, List.map_cons, List.map_nil, List.sum_cons, List.sum_nil]; omega, by simp [stParts]⟩
  | 7, _ => exact ⟨by simp only [stParts, List.mem_cons, List.not_mem_nil, or_false, forall_eq_or_imp, forall_eq]; exact ⟨az, ax⟩, by simp only [stParts, List.map_cons, List.map_nil, List.sum_cons, List.sum_nil]; omega, by simp [stParts]⟩
  | n + 8, h => omega

theorem depOf_le {dep : List Int} {r : Row} {B : Int} (h1 : 1 ≤ B) (h : ∀ x ∈ r.inner, dep.getD x.toNat 0 + r.lev ≤ B) : depOf dep r ≤ B := by
  unfold depOf
  have main : ∀ (l : List Int) (d : Int), d ≤ B → (∀ x ∈ l, dep.getD x.toNat 0 + r.lev ≤ B) → l.foldl (depStep dep r.lev) d ≤ B := by
    intro l
    induction l with
    | nil => exact fun d hd _ => hd
    | cons x l ih =>
      intro d hd hl
      rw [List.foldl_cons]
      refine ih _ ?_ fun y hy => hl y (by simp [hy])
      have := hl x (by simp)
      unfold depStep
      split <;> omega
  exact main _ 1 h1 h
theorem depOf_ext {dep dep' : List Int} (hp : dep <+: dep') {r : Row} (h : ∀ x ∈ r.inner, x.toNat < dep.length) : depOf dep' r = depOf dep r := by
  unfold depOf
  generalize (1 : Int) = d
  revert h
  generalize r.inner = l
  intro h
  induction l generalizing d with
  | nil => rfl
  | cons x l ih =>
    rw [List.foldl_cons, List.foldl_cons, ih _ (fun z hz => h z (by simp [hz]))]
    congr 1
    unfold depStep
    rw [List.getD_eq_getElem?_getD, List.getD_eq_getElem?_getD, List.getElem?_eq_getElem (h x (by simp)), prefix_get hp (List.getElem?_eq_getElem (h x (by simp)))]
theorem weiOf_ext {dep dep' : List Int} (hp : dep <+: dep') {r : Row} (h : ∀ x ∈ r.inner, x.toNat < dep.length) : weiOf dep' r = weiOf dep r := by
  unfold weiOf
  generalize (1 : Int) = d
  revert h
  generalize r.inner = l
  intro h
  induction l generalizing d with
  | nil => rfl
  | cons x l ih =>
    rw [List.foldl_cons, List.foldl_cons, ih _ (fun z hz => h z (by simp [hz]))]
    congr 1
    unfold weiStep
    rw [List.getD_eq_getElem?_getD, List.getD_eq_getElem?_getD, List.getElem?_eq_getElem (h x (by simp)), prefix_get hp (List.getElem?_eq_getElem (h x (by simp)))]
/-- weight and depth of a row put -/
theorem put_wd {T T' : Tab} (hT : T.Ok) (hT' : T'.Ok) (ex : Ext T T') {k : Nat} {r : Row} (hr : T'.rows[k]? = some r) (hin : ∀ x ∈ r.inner, x.toNat < T.rows.length) : wts T' (k : Int) = weiOf T.wei r ∧ dps T' (k : Int) = depOf T.dep r := by
  obtain ⟨h1, h2⟩ := wts_at hT' hr
  rw [h1, h2, weiOf_ext ex.wei (fun x hx => by rw [hT.lw]; exact hin x hx), depOf_ext ex.dep (fun x hx => by rw [hT.ld]; exact hin x hx)]
  exact ⟨rfl, rfl⟩

/-- the parts laid as a kind's arguments -/
noncomputable def ats (laid : List Int) (ps : List Int) : List Int := ps.map fun y => laid.getD y.toNat 0
theorem PartsOk.inn {T : Tab} {laid : List Int} {nodes : List Node} {ps : List Int} {W D : Int} (h : PartsOk T laid ps W D) (L : Laid T laid nodes) : ∀ x ∈ ats laid ps, Stands T x ∧ x.toNat < T.rows.length ∧ dps T x ≤ D := fun x hx => by
  obtain ⟨i, hi, rfl⟩ := List.mem_map.mp hx
  have ha := h.arg i hi
  have hs := L.stands ha
  obtain ⟨_, _, _, r, hr, _⟩ := id hs
  exact ⟨hs, (List.getElem?_eq_some_iff.mp hr).1, ha.d⟩
theorem PartsOk.wei {T : Tab} {laid : List Int} {ps : List Int} {W D : Int} (h : PartsOk T laid ps W D) {r : Row} (hr : r.inner = ats laid ps) : weiOf T.wei r ≤ 1 + W := by
  rw [weiOf_sum, hr]
  have := h.sum
  unfold ats
  rw [List.map_map]
  have e : (List.map ((fun x => T.wei.getD x.toNat 0) ∘ fun y => laid.getD y.toNat 0) ps) = ps.map fun i => wts T (laid.getD i.toNat 0) := rfl
  rw [e]; omega
theorem PartsOk.dep {T : Tab} {laid : List Int} {nodes : List Node} {ps : List Int} {W D : Int} (h : PartsOk T laid ps W D) (L : Laid T laid nodes) (hD : 0 ≤ D) {r : Row} (hr : r.inner = ats laid ps) : depOf T.dep r ≤ D + 1 := by
  refine depOf_le (by omega) fun x hx => ?_
  rw [hr] at hx
  have := (h.inn L x hx).2.2
  have hl : r.lev ≤ 1 := by unfold Row.lev; split <;> omega
  unfold dps at this
  omega
theorem PartsOk.row {T : Tab} {laid : List Int} {nodes : List Node} {ps : List Int} {W D : Int} (h : PartsOk T laid ps W D) (L : Laid T laid nodes) {t : Int} (ht : t ∈ tids) : RowOk T (.cls t (ats laid ps)) ∧ RowOk T (.vlu t (ats laid ps)) :=
  ⟨⟨ht, fun x hx => (h.inn L x hx).1, by unfold ats; rw [List.length_map]; exact h.len⟩, ⟨ht, fun x hx => (h.inn L x hx).1, by unfold ats; rw [List.length_map]; exact h.len⟩⟩
theorem ats_snoc {laid : List Int} {ps : List Int} (k : Int) (h : ∀ i ∈ ps, 0 ≤ i ∧ i < laid.length) : ats (laid ++ [k]) ps = ats laid ps := List.map_congr_left fun i hi => getD_snoc (by have := h i hi; omega)
theorem PartsOk.lt {T : Tab} {laid : List Int} {ps : List Int} {W D : Int} (h : PartsOk T laid ps W D) : ∀ i ∈ ps, 0 ≤ i ∧ i < laid.length := fun i hi => ⟨(h.arg i hi).n0, (h.arg i hi).lt⟩
/-- the node of a named kind laid -/
theorem node_named {T T' : Tab} {laid : List Int} {ps : List Int} {W D : Int} (h : PartsOk T laid ps W D) {t : Int} (ht : t ∈ tids) {k : Nat} (hr : T'.rows[k]? = some (.cls t (ats laid ps)) ∨ T'.rows[k]? = some (.vlu t (ats laid ps))) :
    NodeOk T' (laid ++ [(k : Int)]) laid.length ⟨t, ps, Str.ofString ""⟩ := by
  refine .inr (.inr ⟨ht, h.lt, h.len, ?_⟩)
  rw [getD_last, Int.toNat_natCast]
  have := ats_snoc (k : Int) h.lt
  unfold ats at this hr
  rw [this]; exact hr
theorem node_arr {T T' : Tab} {laid : List Int} {x : Int} {W D : Int} (h : Arg T laid x W D) {k : Nat} (hr : T'.rows[k]? = some (.arr (laid.getD x.toNat 0))) : NodeOk T' (laid ++ [(k : Int)]) laid.length ⟨-1, [x], Str.ofString ""⟩ := by
  have n0 := h.n0
  have lt := h.lt
  refine .inr (.inl ⟨rfl, x.toNat, by omega, ?_, ?_⟩)
  · show [x] = [((x.toNat : Nat) : Int)]
    rw [Int.toNat_of_nonneg n0]
  · rw [getD_last, Int.toNat_natCast, getD_snoc (by omega)]; exact hr

theorem LS.same {C : Ctx} {H H' : AH} {a : Addr} {A : KA} {T : Tab} {al ar : Addr} {laid : List Int} {nodes : List Node} (h : LS C H a A T al ar laid nodes) {S : List Addr} (x : Same S H H') (hS : ∀ b ∈ [a, A.d, A.r, A.i, A.p, A.w, A.o, al, ar], b ∉ S) : LS C H' a A T al ar laid nodes := by
  refine ⟨h.K.same x fun b hb => hS b (sub_at [0, 1, 2, 3, 4, 5, 6] rfl b hb), h.L, h.rl, x _ _ h.hl (hS al (mem_at 7 rfl)), x _ _ h.hr (hS ar (mem_at 8 rfl)), h.ne, h.na, h.pb⟩
theorem LS.fresh {C : Ctx} {H : AH} {a : Addr} {A : KA} {T : Tab} {al ar : Addr} {laid : List Int} {nodes : List Node} (h : LS C H a A T al ar laid nodes) {c : Addr} (hc : H c = none) (o : AObj) : LS C (H.set c o) a A T al ar laid nodes := h.same (Same.fresh hc) fun _ _ => nil_out
theorem itemAt_m1 {l : List PV} {i : Nat} {q : PV} (hl : l.length = i + 1) (h : l[i]? = some q) : itemAt l (-1) = some q := by
  unfold itemAt
  rw [if_neg (by decide), if_pos (by omega), show (-1 + (l.length : Int)).toNat = i by omega]; exact h
theorem itemAt_m2 {l : List PV} {i : Nat} {q : PV} (hl : l.length = i + 2) (h : l[i]? = some q) : itemAt l (-2) = some q := by
  unfold itemAt
  rw [if_neg (by decide), if_pos (by omega), show (-2 + (l.length : Int)).toNat = i by omega]; exact h
theorem natL_get {l : List Nat} {i s : Nat} (h : l[i]? = some s) : (l.map fun (q : Nat) => PV.int q)[i]? = some (.int s) := by
  rw [List.getElem?_map, h]; rfl
end
section
open PySem PySem.W PySem.Calls PyProof.Rows
open scoped Classical

/-- the table and the list of kinds, when the nodes are laid -/
structure LQ (C : Ctx) (H : AH) (a : Addr) (A : KA) (T : Tab) (al : Addr) (laid : List Int) (nodes : List Node) : Prop where
  K : KT C H a A T
  L : Laid T laid nodes
  hl : H al = some (.list (laid.map .int))
  ne : ∀ b ∈ [a, A.d, A.r, A.i, A.p, A.w, A.o], b ≠ al
  bd : ∀ k ∈ laid, wts T k ≤ 1828 ∧ dps T k ≤ 15
theorem LQ.al {C : Ctx} {H : AH} {a : Addr} {A : KA} {T : Tab} {al : Addr} {laid : List Int} {nodes : List Node} (h : LQ C H a A T al laid nodes) : al ∉ [A.r, A.i, A.p, A.w, A.o] := fun q => by
  exact h.ne _ (sub_at [2, 3, 4, 5, 6] rfl _ q) rfl
theorem LQ.put {C : Ctx} {H H1 : AH} {a : Addr} {A : KA} {T T' : Tab} {al : Addr} {laid : List Int} {nodes : List Node} (h : LQ C H a A T al laid nodes) (K1 : KT C H1 a A T') (ok' : T'.Ok) (ex : Ext T T') (S : Same [A.r, A.i, A.p, A.w, A.o] H H1) : LQ C H1 a A T' al laid nodes := by
  refine ⟨K1, h.L.ext ok' ex, S _ _ h.hl h.al, h.ne, fun k hk => ?_⟩
  obtain ⟨_, _, _, r, hr, _⟩ := h.L.st k hk
  have hl := (List.getElem?_eq_some_iff.mp hr).1
  rw [ex.wts (by rw [h.L.ok.lw]; exact hl), ex.dps (by rw [h.L.ok.ld]; exact hl)]
  exact h.bd k hk
theorem LQ.same {C : Ctx} {H H' : AH} {a : Addr} {A : KA} {T : Tab} {al : Addr} {laid : List Int} {nodes : List Node} (h : LQ C H a A T al laid nodes) {S : List Addr} (x : Same S H H') (hS : ∀ b ∈ [a, A.d, A.r, A.i, A.p, A.w, A.o, al], b ∉ S) : LQ C H' a A T al laid nodes := by
  refine ⟨h.K.same x fun b hb => hS b (sub_at [0, 1, 2, 3, 4, 5, 6] rfl b hb), h.L, x _ _ h.hl (hS al (mem_at 7 rfl)), h.ne, h.bd⟩
theorem LQ.arg {C : Ctx} {H : AH} {a : Addr} {A : KA} {T : Tab} {al : Addr} {laid : List Int} {nodes : List Node} (h : LQ C H a A T al laid nodes) {j : Int} (hj : 0 ≤ j ∧ j < laid.length) : Arg T laid j 1828 15 := by
  have hm : laid.getD j.toNat 0 ∈ laid := by rw [List.getD_eq_getElem?_getD, List.getElem?_eq_getElem (by omega)]; exact List.getElem_mem _
  exact ⟨hj.1, hj.2, (h.bd _ hm).1, (h.bd _ hm).2⟩

/-- the law's words -/
structure WD (H : AH) (w : Addr) (nm : Int → Option PySem.Str) (T : Tab) (laid : List Int) (X : List Addr) (cs : List Addr) : Prop where
  hw : H w = some (.list (cs.map fun b => .val (.ref b)))
  len : cs.length = 9
  wx : w ∉ X
  row : ∀ (l : Nat) b, cs[l]? = some b → b ∉ X ∧ H b = some (.list (wordsL nm T laid l))
theorem WD.same {H H' : AH} {w : Addr} {nm : Int → Option PySem.Str} {T : Tab} {laid : List Int} {X cs : List Addr} (h : WD H w nm T laid X cs) (x : Same X H H') : WD H' w nm T laid X cs :=
  ⟨x _ _ h.hw h.wx, h.len, h.wx, fun l b e => ⟨(h.row l b e).1, x _ _ (h.row l b e).2 (h.row l b e).1⟩⟩
theorem WD.at {H : AH} {w : Addr} {nm : Int → Option PySem.Str} {T : Tab} {laid : List Int} {X cs : List Addr} (h : WD H w nm T laid X cs) {l : Nat} (hl : l < 9) : ∃ b, (cs.map fun b => PV.val (.ref b))[l]? = some (.val (.ref b)) ∧ b ∉ X ∧ H b = some (.list (wordsL nm T laid l)) := by
  have hl' : l < cs.length := by rw [h.len]; exact hl
  refine ⟨cs[l], ?_, h.row l _ (List.getElem?_eq_getElem hl')⟩
  rw [List.getElem?_map, List.getElem?_eq_getElem hl']; rfl
theorem Laid.TX {T T' : Tab} {laid : List Int} {nodes : List Node} (L : Laid T laid nodes) (ok' : T'.Ok) (ex : Ext T T') (nm : Int → Option PySem.Str) {j : Nat} (hj : j < laid.length) (lev : Nat) : Mine.TX nm T'.rows (laid.getD j 0) lev = Mine.TX nm T.rows (laid.getD j 0) lev :=
  TX_ext ex.rows L.ok.inn ok'.inn _ _ rfl (L.lt hj).2 lev
theorem TX_row {T : Tab} (hT : T.Ok) (nm : Int → Option PySem.Str) {k : Nat} {r : Row} (hr : T.rows[k]? = some r) (lev : Nat) : TX nm T.rows (k : Int) lev = rowText nm (TX nm T.rows) lev r := TX_eq hT.inn (by rw [Int.toNat_natCast]; exact hr) lev
theorem join1 (sep x : PySem.Str) : Txt.join sep [x] = x := by
  rw [show Txt.join sep [x] = Str.join sep [x] from StrLaws.glued_eq_join sep [x]]; rfl
theorem T8_eq : S "T8" = S "T" ++ S (toString (8 : Int)) := by decide +kernel
theorem dget8 (nm : Int → Option PySem.Str) : ((nm 8).map PV.str).getD (.str (Str.ofString "T8")) = .str (nameText nm 8) := by
  unfold nameText
  rw [← T8_eq]
  cases nm 8 <;> rfl

noncomputable def WrapP (C : Ctx) (H : AH) (a : Addr) (A : KA) (T : Tab) (al : Addr) (laid : List Int) (nodes : List Node) (nm : Int → Option PySem.Str) : PV → AH → Prop := fun q H' => ∃ (k : Nat) (T' : Tab), q = .tup [.int (k : Int), .str (TX nm T'.rows k 0)] ∧ k < T'.rows.length ∧ LQ C H' a A T' al laid nodes ∧ Ext T T' ∧
  T'.rows.length ≤ T.rows.length + 2 ∧ Same [A.r, A.i, A.p, A.w, A.o] H H'
theorem wei1 {wei : List Int} {k : Int} {r : Row} (h : r.inner = [k]) : weiOf wei r = 1 + wei.getD k.toNat 0 := by rw [weiOf_sum, h]; simp
theorem lev_le (r : Row) : r.lev ≤ 1 := by unfold Row.lev; split <;> omega
theorem dep1 {dep : List Int} {k : Int} {r : Row} {B : Int} (h : r.inner = [k]) (h1 : 1 ≤ B) (hk : dep.getD k.toNat 0 + 1 ≤ B) : depOf dep r ≤ B := depOf_le h1 fun x hx => by
  rw [h] at hx; simp only [List.mem_singleton] at hx; subst hx; have := lev_le r; omega
end
section
open PySem PySem.W PySem.Calls PyProof.Rows
open scoped Classical

/-- the law's own text -/
noncomputable def lawFd (_p : Params) : Option FuncData := lawFn 72 312
theorem law_start {p : Params} {P : List PySem.Stmt → Scope → Prop} {fd : FuncData} {body : List PySem.Stmt} {sc₀ : Scope} (hf : lawFd p = some fd) (hb : fd.body = .stmts body) (hsc : fd.scope = sc₀) (h : ∀ sc, sc = sc₀ → P body sc) :
    ∀ fd' body', lawFd p = some fd' → fd'.body = .stmts body' → P body' fd'.scope := by
  intro fd' body' hf' hb'
  have e : fd = fd' := by rw [hf] at hf'; injection hf'
  subst e
  have e2 : body = body' := by rw [hb] at hb'; injection hb'
  subst e2
  exact h _ hsc

/-- the text behind its first eight statements -/
noncomputable def restE : List PySem.Stmt → List PySem.Stmt
  | _ :: _ :: _ :: _ :: _ :: _ :: _ :: _ :: r => r
  | _ => []
noncomputable def tailI : List Int := [8338, 0, 7, 1, 8, 3, 18, 25, 4, 45, 16, 33, 15, 46, 10, 1]
theorem vals_ok (xs : List Int) : ∃ vs : List Int, (((xs.map PV.int).take 16).map fun p => PV.int (unI p % 99991)) ++ (((tailI.map PV.int).drop ((xs.map PV.int).take 16).length).map fun p => PV.int (unI p)) = vs.map PV.int ∧ vs.length = 16 ∧ ∀ n ∈ vs, 0 ≤ n ∧ n < 100000 := by
  refine ⟨(xs.take 16).map (fun n => n % 99991) ++ tailI.drop ((xs.map PV.int).take 16).length, ?_, ?_, fun n hn => ?_⟩
  · rw [List.map_append, ← List.map_take, ← List.map_drop, List.map_map, List.map_map, List.map_map]
    rfl
  · simp only [List.length_append, List.length_map, List.length_take, List.length_drop]
    have : tailI.length = 16 := rfl
    omega
  · rcases List.mem_append.mp hn with hn | hn
    · obtain ⟨m, _, rfl⟩ := List.mem_map.mp hn
      omega
    · have : ∀ n ∈ tailI, 0 ≤ n ∧ n < 100000 := by decide
      exact this n (List.mem_of_mem_drop hn)
theorem val_at {vs : List Int} (hl : vs.length = 16) (hb : ∀ n ∈ vs, 0 ≤ n ∧ n < 100000) {i : Nat} (hi : i < 16) : ∃ w : Int, (vs.map PV.int)[i]? = some (.int w) ∧ 0 ≤ w ∧ w < 100000 := by
  have h : i < vs.length := by omega
  exact ⟨vs[i], by rw [List.getElem?_map, List.getElem?_eq_getElem h]; rfl, hb _ (List.getElem_mem h)⟩

theorem sp_start {T1 T2 : Tab} {k1 k2 : Int} {n1 : List Node} (L1 : Laid T1 [k1] n1) (ex : Ext T1 T2) (w1 : wts T1 k1 = 1) (d1 : dps T1 k1 ≤ 1) (w2 : wts T2 k2 = 1) (d2 : dps T2 k2 ≤ 1) : SP T2 [k1, k2] [0, 1] := by
  obtain ⟨_, _, _, r, hr, _⟩ := L1.st k1 (by simp)
  have hl := (List.getElem?_eq_some_iff.mp hr).1
  have e1 : wts T2 k1 = wts T1 k1 := ex.wts (by rw [L1.ok.lw]; exact hl)
  have e2 : dps T2 k1 = dps T1 k1 := ex.dps (by rw [L1.ok.ld]; exact hl)
  refine ⟨by simp, by simp, fun i hi => ?_, fun i s hs => ?_, fun k hk => ?_⟩
  · simp only [List.mem_cons, List.not_mem_nil, or_false] at hi
    rcases hi with rfl | rfl <;> simp
  · match i, hs with
    | 0, hs =>
      simp at hs; subst hs
      show wts T2 k1 ≤ 1 ∧ dps T2 k1 ≤ 0 + 1
      omega
    | 1, hs =>
      simp at hs; subst hs
      show wts T2 k2 ≤ 1 ∧ dps T2 k2 ≤ 1 + 1
      omega
    | i + 2, hs => simp at hs
  · simp only [List.mem_cons, List.not_mem_nil, or_false] at hk
    show wts T2 k ≤ 1 ∧ dps T2 k ≤ 2
    rcases hk with rfl | rfl <;> omega

theorem pick3 (x y : Int) {s : Int} (h : 0 ≤ s ∧ s < 3) : ∃ args : List Int, ([.tup [], .tup [.int x], .tup [.int x, .int y]] : List PV)[s.toNat]? = some (iTp args) ∧ (args = [] ∨ args = [x] ∨ args = [x, y]) := by
  obtain ⟨n, rfl⟩ := Int.eq_ofNat_of_zero_le h.1
  have hn : n < 3 := by omega
  rw [Int.toNat_natCast]
  clear h
  match n, hn with
  | 0, _ => exact ⟨[], rfl, .inl rfl⟩
  | 1, _ => exact ⟨[x], rfl, .inr (.inl rfl)⟩
  | 2, _ => exact ⟨[x, y], rfl, .inr (.inr rfl)⟩
  | n + 3, h => omega
theorem Arg.to {T T' : Tab} {laid : List Int} {nodes : List Node} {i W D : Int} (h : Arg T laid i W D) (L : Laid T laid nodes) (ex : Ext T T') : Arg T' laid i W D := by
  have := h.ext L ex []
  rw [List.append_nil] at this; exact this
theorem ptr_parts {T : Tab} {laid : List Int} {o x y : Int} {args : List Int} (ho : Arg T laid o 1828 15) (hx : Arg T laid x 37 15) (hy : Arg T laid y 1 15) (ha : args = [] ∨ args = [x] ∨ args = [x, y]) : PartsOk T laid (o :: args) 2000 15 := by
  have wo := ho.w
  have wx := hx.w
  have wy := hy.w
  have ao := ho.mono (W' := 2000) (D' := 15) (by omega) (by omega)
  have ax := hx.mono (W' := 2000) (D' := 15) (by omega) (by omega)
  have ay := hy.mono (W' := 2000) (D' := 15) (by omega) (by omega)
  rcases ha with rfl | rfl | rfl
  · exact ⟨by simp only [List.mem_singleton, forall_eq]; exact ao, by simp only [List.map_cons, List.map_nil, List.sum_cons, List.sum_nil]; omega, by simp⟩
  · exact ⟨by simp only [List.mem_cons, List.not_mem_nil, or_false, forall_eq_or_imp, forall_eq]; exact ⟨ao, ax⟩, by simp only [List.map_cons, List.map_nil, List.sum_cons, List.sum_nil]; omega, by simp⟩
  · exact ⟨by simp only [List.mem_cons, List.not_mem_nil, or_false, forall_eq_or_imp, forall_eq]; exact ⟨ao, ax, ay⟩, by simp only [List.map_cons, List.map_nil, List.sum_cons, List.sum_nil]; omega, by simp⟩

/-- what the law asks: kinds and their texts -/
noncomputable def asksL (nm : Int → Option PySem.Str) (T : Tab) (ks : List Nat) : List PV := ks.map fun (k : Nat) => .tup [.int (k : Int), .str (TX nm T.rows (k : Int) 0)]
theorem asks_ext {nm : Int → Option PySem.Str} {T T' : Tab} {ks : List Nat} (hT : T.Ok) (hT' : T'.Ok) (ex : Ext T T') (hk : ∀ k ∈ ks, k < T.rows.length) : asksL nm T ks = asksL nm T' ks := by
  unfold asksL
  refine List.map_congr_left fun k hk' => ?_
  rw [TX_ext ex.rows hT.inn hT'.inn k (k : Int) (by simp) (hk k hk') 0]
theorem asks_snoc {nm : Int → Option PySem.Str} {T : Tab} {ks : List Nat} {k : Nat} {q : PV} (h : q = .tup [.int (k : Int), .str (TX nm T.rows (k : Int) 0)]) : asksL nm T ks ++ [q] = asksL nm T (ks ++ [k]) := by
  subst h; unfold asksL; rw [List.map_append]; rfl
theorem asks_prim {nm : Int → Option PySem.Str} {T : Tab} (hT : T.Ok) (pb : ∀ k : Nat, k < 16 → T.rows[k]? = some (.prim k)) : ((rngItems 0 16 1).map fun p => PV.tup [p, .str (primText (unI p))]) = asksL nm T (List.range 16) := by
  unfold asksL
  have e : rngItems 0 16 1 = (List.range 16).map fun (i : Nat) => PV.int (i : Int) := by
    unfold rngItems
    have : (Builtin.Range.rangeSize 0 16 1).toNat = 16 := by decide
    rw [this]
    refine List.map_congr_left fun i _ => ?_
    congr 1; omega
  rw [e, List.map_map]
  refine List.map_congr_left fun k hk => ?_
  have hk := List.mem_range.mp hk
  show PV.tup [.int (k : Int), .str (primText (k : Int))] = _
  rw [TX_row hT nm (pb k hk)]; rfl
theorem pb_of {T : Tab} (h : T.rows = (List.range 16).map (fun (i : Nat) => Row.prim i)) : ∀ k : Nat, k < 16 → T.rows[k]? = some (.prim k) := fun k hk => by
  rw [h, List.getElem?_map, List.getElem?_range hk]; rfl
theorem WD.mk' {C : Ctx} {H H' : AH} {a : Addr} {A : KA} {T : Tab} {c : Addr} {cs : List Addr} {nm : Int → Option PySem.Str} {laid : List Int} {T' : Tab} (K : KT C H a A T') (hc : H c = none) (hw : H' c = some (.list (cs.map fun b => .val (.ref b)))) (len : cs.length = 9)
    (row : ∀ (l : Nat) b, cs[l]? = some b → H b = none ∧ H' b = some (.list (wordsL nm T laid l))) : WD H' c nm T laid [A.r, A.i, A.p, A.w, A.o] cs := by
  obtain ⟨j2, e2, _⟩ := K.ix
  have out : ∀ b, H b = none → b ∉ [A.r, A.i, A.p, A.w, A.o] := fun b hb q =>
    al_cons (P := (· ≠ b)) (ne_fresh K.rows hb) (al_cons (ne_fresh e2 hb) (al_cons (ne_fresh K.dep hb) (al_cons (ne_fresh K.wei hb) (sing (ne_fresh K.opn hb))))) b q rfl
  exact ⟨hw, len, out c hc, fun l b e => ⟨out b (row l b e).1, (row l b e).2⟩⟩
theorem KT.out {C : Ctx} {H : AH} {a : Addr} {A : KA} {T : Tab} (K : KT C H a A T) {b : Addr} (hb : H b = none) : b ∉ [a, A.d, A.r, A.i, A.p, A.w, A.o] := fun q => by
  obtain ⟨j2, e2, _⟩ := K.ix
  obtain ⟨fs, j, e, _⟩ := K.ns
  exact al_cons (P := (· ≠ b)) (ne_fresh K.inst hb) (al_cons (ne_fresh e hb) (al_cons (ne_fresh K.rows hb) (al_cons (ne_fresh e2 hb) (al_cons (ne_fresh K.dep hb) (al_cons (ne_fresh K.wei hb) (sing (ne_fresh K.opn hb))))))) b q rfl
end
section
open PySem PySem.W PySem.Calls PyProof.Rows
open scoped Classical

/-- the law while it gathers what it asks -/
structure AQ (C : Ctx) (Hb H : AH) (a : Addr) (A : KA) (T0 T : Tab) (al : Addr) (laid : List Int) (nodes : List Node) (nm : Int → Option PySem.Str) (w : Addr) (ws : List Addr) (an : Addr) (jn : Nat) (ak : Addr) (ks : List Nat) : Prop where
  q : LQ C H a A T al laid nodes
  L0 : Laid T0 laid nodes
  ex : Ext T0 T
  W : WD H w nm T0 laid [A.r, A.i, A.p, A.w, A.o] ws
  N : H an = some (.idict (fun k => (nm k).map PV.str) jn)
  an' : an ∉ [A.r, A.i, A.p, A.w, A.o]
  nmok : NmOk nm
  k : H ak = some (.list (asksL nm T ks))
  ks' : ∀ k ∈ ks, k < T.rows.length
  ne : ∀ b ∈ [a, A.d, A.r, A.i, A.p, A.w, A.o, al, w, an], b ≠ ak
  nw : ∀ b ∈ ws, b ≠ ak
  S : Same [A.r, A.i, A.p, A.w, A.o, ak] Hb H

section
variable {C : Ctx} {Hb H : AH} {a : Addr} {A : KA} {T0 T : Tab} {al : Addr} {laid : List Int} {nodes : List Node} {nm : Int → Option PySem.Str} {w : Addr} {ws : List Addr} {an : Addr} {jn : Nat} {ak : Addr} {ks : List Nat}
theorem WD.set (h : WD H w nm T0 laid [A.r, A.i, A.p, A.w, A.o] ws) (h1 : w ≠ ak) (h2 : ∀ b ∈ ws, b ≠ ak) (o : AObj) : WD (H.set ak o) w nm T0 laid [A.r, A.i, A.p, A.w, A.o] ws :=
  ⟨hset_ne h1 h.hw, h.len, h.wx, fun l b e => ⟨(h.row l b e).1, hset_ne (h2 b (List.mem_of_getElem? e)) (h.row l b e).2⟩⟩
theorem AQ.kOut (h : AQ C Hb H a A T0 T al laid nodes nm w ws an jn ak ks) : ak ∉ [A.r, A.i, A.p, A.w, A.o] := fun q => by
  exact h.ne _ (sub_at [2, 3, 4, 5, 6] rfl _ q) rfl
/-- one more asked, with the table that stands then -/
theorem AQ.snoc {H1 : AH} {T1 : Tab} {k : Nat} {q : PV} (h : AQ C Hb H a A T0 T al laid nodes nm w ws an jn ak ks) (q1 : LQ C H1 a A T1 al laid nodes) (ex1 : Ext T T1) (S1 : Same [A.r, A.i, A.p, A.w, A.o] H H1) (hk : k < T1.rows.length)
    (hq : q = .tup [.int (k : Int), .str (TX nm T1.rows (k : Int) 0)]) : AQ C Hb (H1.set ak (.list (asksL nm T ks ++ [q]))) a A T0 T1 al laid nodes nm w ws an jn ak (ks ++ [k]) := by
  have hn : ∀ b ∈ [a, A.d, A.r, A.i, A.p, A.w, A.o, al, w, an], b ∉ [ak] := fun b hb => out_sing (h.ne b hb)
  refine ⟨q1.same Same.set fun b hb => hn b (sub_at [0, 1, 2, 3, 4, 5, 6, 7] rfl b hb), h.L0, h.ex.trans ex1, (h.W.same S1).set (h.ne w (mem_at 8 rfl)) h.nw _, hset_ne (h.ne an (mem_at 9 rfl)) (S1 _ _ h.N h.an'), h.an', h.nmok, ?_, fun j hj => ?_, h.ne, h.nw, ?_⟩
  · rw [hset, asks_ext h.q.L.ok q1.L.ok ex1 h.ks', asks_snoc hq]
  · rcases List.mem_append.mp hj with hj | hj
    · have := h.ks' j hj
      have := ex1.rows.length_le
      omega
    · simp only [List.mem_singleton] at hj; subst hj; exact hk
  · exact (h.S.trans (S1.mono (sub_at [0, 1, 2, 3, 4] rfl))).trans (Same.set.mono (sub_at [5] rfl))
theorem AQ.plain {x : Nat} (h : AQ C Hb H a A T0 T al laid nodes nm w ws an jn ak ks) (hx : x < laid.length) :
    AQ C Hb (H.set ak (.list (asksL nm T ks ++ [.tup [.int (laid.getD x 0), .str (TX nm T.rows (laid.getD x 0) 0)]]))) a A T0 T al laid nodes nm w ws an jn ak (ks ++ [(laid.getD x 0).toNat]) := by
  obtain ⟨h0, hl⟩ := h.q.L.lt hx
  refine h.snoc h.q (Ext.refl T) (Same.refl _ _) hl ?_
  rw [Int.toNat_of_nonneg h0]
theorem AQ.wrap {H1 : AH} {q : PV} (h : AQ C Hb H a A T0 T al laid nodes nm w ws an jn ak ks) (hw : WrapP C H a A T al laid nodes nm q H1) :
    H1 ak = some (.list (asksL nm T ks)) ∧ ∃ T1 k, AQ C Hb (H1.set ak (.list (asksL nm T ks ++ [q]))) a A T0 T1 al laid nodes nm w ws an jn ak (ks ++ [k]) ∧ Ext T T1 ∧ T1.rows.length ≤ T.rows.length + 2 := by
  obtain ⟨k, T1, rfl, hk, q1, ex1, len1, S1⟩ := hw
  exact ⟨S1 _ _ h.k h.kOut, T1, k, h.snoc q1 ex1 S1 hk rfl, ex1, len1⟩
theorem AQ.el {G : Prop} {H1 : AH} {q : PV} (h : AQ C Hb H a A T0 T al laid nodes nm w ws an jn ak ks) (hw : WrapP C H a A T al laid nodes nm q H1)
    (k : H1 ak = some (.list (asksL nm T ks)) → ∀ T1 k, AQ C Hb (H1.set ak (.list (asksL nm T ks ++ [q]))) a A T0 T1 al laid nodes nm w ws an jn ak (ks ++ [k]) → Ext T T1 → T1.rows.length ≤ T.rows.length + 2 → G) : G :=
  let ⟨g, T1, k1, h1, h2, h3⟩ := h.wrap hw; k g T1 k1 h1 h2 h3
end
theorem SP.lq {C : Ctx} {H : AH} {a : Addr} {A : KA} {T : Tab} {al ar : Addr} {laid : List Int} {nodes : List Node} {spine : List Nat} (h : LS C H a A T al ar laid nodes) (s : SP T laid spine) (h15 : spine.length ≤ 15) : LQ C H a A T al laid nodes :=
  ⟨h.K, h.L, h.hl, fun b hb => (h.ne b hb).1, fun k hk => by
    have := s.all k hk
    have m := wb_mono (m := spine.length - 1) (n := 14) (by omega)
    rw [wb14] at m
    omega⟩
theorem namesEl {H : AH} {Q : PV → AH → Prop} (h : ∀ c nm j H', H c = none → H' c = some (.idict (fun k => (nm k).map PV.str) j) → NmOk nm → Same [] H H' → Q (.val (.ref c)) H') :
    ∀ p H', (∃ c nm j, p = .val (.ref c) ∧ H c = none ∧ H' c = some (.idict (fun k => (nm k).map PV.str) j) ∧ NmOk nm ∧ Same [] H H') → Q p H' := by rintro _ H' ⟨c, nm, j, rfl, h1, h2, h3, h4⟩; exact h c nm j H' h1 h2 h3 h4
theorem wordsEl {H : AH} {nm : Int → Option PySem.Str} {T : Tab} {laid : List Int} {Q : PV → AH → Prop} (h : ∀ c (cs : List Addr) H', H c = none → H' c = some (.list (cs.map fun b => .val (.ref b))) → cs.length = 9 → (∀ (l : Nat) b, cs[l]? = some b → H b = none ∧ H' b = some (.list (wordsL nm T laid l))) → Same [] H H' → Q (.val (.ref c)) H') :
    ∀ p H', (∃ (c : Addr) (cs : List Addr), p = .val (.ref c) ∧ H c = none ∧ H' c = some (.list (cs.map fun b => .val (.ref b))) ∧ cs.length = 9 ∧ (∀ (l : Nat) b, cs[l]? = some b → H b = none ∧ H' b = some (.list (wordsL nm T laid l))) ∧ Same [] H H') → Q p H' := by
  rintro _ H' ⟨c, cs, rfl, h1, h2, h3, h4, h5⟩; exact h c cs H' h1 h2 h3 h4 h5
theorem tableEl {C : Ctx} {H : AH} {Q : PV → AH → Prop} (h : ∀ a A T H', KT C H' a A T → T.Ok → T.rows = (List.range 16).map (fun (i : Nat) => Row.prim i) → Same [] H H' → (∀ b ∈ [a, A.d, A.r, A.i, A.p, A.w, A.o], H b = none) → Q (.val (.ref a)) H') :
    ∀ p H', (∃ a A T, p = .val (.ref a) ∧ KT C H' a A T ∧ T.Ok ∧ T.rows = (List.range 16).map (fun (i : Nat) => Row.prim i) ∧ Same [] H H' ∧ ∀ b ∈ [a, A.d, A.r, A.i, A.p, A.w, A.o], H b = none) → Q p H' := by
  rintro _ H' ⟨a, A, T, rfl, h1, h2, h3, h4, h5⟩; exact h a A T H' h1 h2 h3 h4 h5
end
section
open PySem PySem.W PySem.Calls PyProof.Rows
open scoped Classical

/-- a row put: where it lies, the table behind it -/
structure PutF (C : Ctx) (H : AH) (a : Addr) (A : KA) (T : Tab) (r : Row) (k : Nat) (T' : Tab) (H' : AH) : Prop where
  K : KT C H' a A T'
  ok : T'.Ok
  ex : Ext T T'
  hr : T'.rows[k]? = some r
  len : T'.rows.length ≤ T.rows.length + 1
  S : Same [A.r, A.i, A.p, A.w, A.o] H H'
section
variable {C : Ctx} {p : Params} {mg mb : PySem.Str → Option Value} {H : AH} {a : Addr} {A : KA} {T : Tab}

theorem put_sound (G : Good C mg mb) (ho : Our C p) (K : KT C H a A T) (hT : T.Ok) {r : Row} (hr : RowOk T r) (hl : T.rows.length ≤ 500) (hd : depOf T.dep r ≤ 24) (hw : weiOf T.wei r ≤ 4096) :
    CodeP C 8 (.ref 76) [.val (.ref a), .tup r.pv] H (fun q H' => ∃ (k : Nat) (T' : Tab), q = .int k ∧ PutF C H a A T r k T' H') := by
  have hin := hr.inner
  have hin2 : ∀ x ∈ r.inner, 0 ≤ x ∧ x.toNat < T.rows.length := fun x hx => ⟨(hin.1 x hx).1, let ⟨q, hq⟩ := (hin.1 x hx).2; (List.getElem?_eq_some_iff.mp hq).1⟩
  obtain ⟨j, hix, hj⟩ := K.ix
  refine our_call G ho (ps := ["self", "row"]) rfl rfl rfl (by exact vk2 fun _ _ => rfl) rfl (by decide +kernel) fun sc hsc => ?_
  dsimp only [List.zip_cons_cons, List.zip_nil_left, List.zip_nil_right] at hsc ⊢
  (repeat' (first | fail "W" | fail "R"))
  refine mGetT hix ?_
  (repeat' (first | fail "W" | fail "R"))
  refine rGetT hix (tup_key hin.2) ?_
  rcases ix_cases T.rows r with ⟨i, e, hi⟩ | ⟨e, hno⟩
  · rw [e]
    dsimp only [Option.getD]
    (repeat' (first | fail "W" | fail "R"))
    exact ⟨i, T, rfl, K, hT, Ext.refl T, hi, by omega, Same.refl _ _⟩
  rw [e]
  dsimp only [Option.getD]
  (repeat' (first | fail "W" | fail "R"))
  refine cUse (check_sound G ho K hr (by omega)) (by omega) (elA ?_)
  (repeat' (first | fail "W"))
  refine sIfJ (J := fun m' H' => H' = H ∧ ∃ o : Int, m' = L [("self", .val (.ref a)), ("row", .tup r.pv), ("found", .int (-1)), ("depth", .int 1), ("weight", .int 1), ("opened", .int o)]) (fun KK kn _ => ?_) ?_
  · (repeat' (first | fail "W" | fail "R"))
    all_goals first
      | (refine gT (by omega) (pv0 r) ?_; (repeat' (first | fail "W" | fail "R")))
      | skip
    all_goals first
      | exact kn _ _ ⟨rfl, _, rfl⟩
      | (refine gT (by omega) (pv0 r) ?_; (repeat' (first | fail "W" | fail "R")))
    all_goals exact kn _ _ ⟨rfl, _, rfl⟩
  rintro m' H' ⟨hHH, o, rfl⟩
  obtain rfl := hHH.symm
  (repeat' (first | fail "W" | fail "R"))
  refine gT (by omega) (pv0 r) ?_
  (repeat' (first | fail "W" | fail "R"))
  refine cUse (level_sound G ho _) (by omega) (elA ?_)
  (repeat' (first | fail "W" | fail "R"))
  refine cUse (inner_sound G ho r hin.2) (by omega) (elA ?_)
  refine itT ?_
  refine loopI (I := fun i m H' => H' = H ∧ ∃ (o : Int) (l2 : List (String × PV)), Only l2 ["inner"] ∧
      m = L (("self", .val (.ref a)) :: ("row", .tup r.pv) :: ("found", .int (-1)) :: ("depth", .int ((r.inner.take i).foldl (depStep T.dep r.lev) 1)) :: ("weight", .int ((r.inner.take i).foldl (weiStep T.wei) 1)) :: ("opened", .int o) :: ("level", .int r.lev) :: l2))
      ⟨rfl, o, [], Only.nil, rfl⟩ (fun _ _ _ _ _ => trivial) ?_ ?_
  · rintro i q m H' K' hq ⟨rfl, o, l2, hl2, rfl⟩ kn _
    rw [List.getElem?_map] at hq
    obtain ⟨x, hx, rfl⟩ := Option.map_eq_some_iff.mp hq
    obtain ⟨x0, xl⟩ := hin2 x (List.mem_of_getElem? hx)
    have tk : r.inner.take (i + 1) = r.inner.take i ++ [x] := by rw [List.take_add_one, hx]; rfl
    rw [tk, List.foldl_append, List.foldl_append] at kn
    generalize (r.inner.take i).foldl (depStep T.dep r.lev) 1 = dd at kn ⊢
    generalize (r.inner.take i).foldl (weiStep T.wei) 1 = ww at kn ⊢
    have gd := mapGet (l := T.dep) (k := x.toNat) (by rw [hT.ld]; exact xl)
    have gw := mapGet (l := T.wei) (k := x.toNat) (by rw [hT.lw]; exact xl)
    have go := mapGet (l := T.opn) (k := x.toNat) (by rw [hT.lo]; exact xl)
    (repeat' (first | fail "W" | fail "R"))
    refine gL K.dep (by omega) (itemAt_of x0 gd) ?_
    (repeat' (first | fail "W" | fail "R"))
    · refine gL K.dep (by omega) (itemAt_of x0 gd) ?_
      (repeat' (first | fail "W" | fail "R"))
      refine gL K.wei (by omega) (itemAt_of x0 gw) ?_
      (repeat' (first | fail "W" | fail "R"))
      refine gL K.opn (by omega) (itemAt_of x0 go) ?_
      (repeat' (first | fail "W" | fail "R"))
      all_goals exact kn _ _ ⟨rfl, _, upd l2 "inner" (.int x), hl2.upd (by decide), by simp only [List.foldl_cons, List.foldl_nil, depStep, weiStep, *, if_true, if_false]; rfl⟩
    · refine gL K.wei (by omega) (itemAt_of x0 gw) ?_
      (repeat' (first | fail "W" | fail "R"))
      refine gL K.opn (by omega) (itemAt_of x0 go) ?_
      (repeat' (first | fail "W" | fail "R"))
      all_goals exact kn _ _ ⟨rfl, _, upd l2 "inner" (.int x), hl2.upd (by decide), by simp only [List.foldl_cons, List.foldl_nil, depStep, weiStep, *, if_true, if_false]; rfl⟩
  · rintro m H' ⟨rfl, o, l2, hl2, rfl⟩
    rw [List.length_map, List.take_length]
    change seqQ C 7 _ sc _ Fl.next (L (("self", .val (.ref a)) :: ("row", .tup r.pv) :: ("found", .int (-1)) :: ("depth", .int (depOf T.dep r)) :: ("weight", .int (weiOf T.wei r)) :: ("opened", .int o) :: ("level", .int r.lev) :: l2)) H'
    obtain ⟨k1, i1, k2, p2, k3, w3, k4, o4, k5, s5⟩ := put5 (o := o) K hix hj e rfl rfl rfl
    (repeat' (first | fail "W" | fail "R"))
    refine fLenL K.rows (by rw [List.length_map]; omega) ?_
    rw [List.length_map]
    (repeat' (first | fail "W" | fail "R"))
    refine mApp K.rows ?_
    (repeat' (first | fail "W" | fail "R"))
    refine rApp K.rows (by rw [List.length_map]; omega) ?_
    (repeat' (first | fail "W" | fail "R"))
    refine sIDt i1 (tup_key hin.2) (by omega) ?_
    (repeat' (first | fail "W" | fail "R"))
    refine mApp p2 ?_
    (repeat' (first | fail "W" | fail "R"))
    refine rApp p2 (by rw [List.length_map, hT.ld]; omega) ?_
    (repeat' (first | fail "W" | fail "R"))
    refine mApp w3 ?_
    (repeat' (first | fail "W" | fail "R"))
    refine rApp w3 (by rw [List.length_map, hT.lw]; omega) ?_
    (repeat' (first | fail "W" | fail "R"))
    refine mApp o4 ?_
    (repeat' (first | fail "W" | fail "R"))
    refine rApp o4 (by rw [List.length_map, hT.lo]; omega) ?_
    (repeat' (first | fail "W" | fail "R"))
    exact ⟨T.rows.length, T.add r o, rfl, k5, hT.add hno hin2 hw (fun n e => absurd e (hr.num.2 n)) ⟨hr.num.1, hin.2⟩, T.add_ext r o, T.add_at r o, T.add_len r o, s5⟩
end
end
section
open PySem PySem.W PySem.Calls PyProof.Rows
open scoped Classical

noncomputable def PutP (C : Ctx) (H : AH) (a : Addr) (A : KA) (T : Tab) (r : Row) : PV → AH → Prop := fun q H' => ∃ (k : Nat) (T' : Tab), q = .int k ∧ PutF C H a A T r k T' H'
theorem PutP.el {C : Ctx} {H : AH} {a : Addr} {A : KA} {T : Tab} {r : Row} {Q : PV → AH → Prop} (h : ∀ (k : Nat) (T' : Tab) (H' : AH), KT C H' a A T' → T'.Ok → Ext T T' → T'.rows[k]? = some r → T'.rows.length ≤ T.rows.length + 1 → Same [A.r, A.i, A.p, A.w, A.o] H H' → Q (.int (k : Int)) H') :
    ∀ p H', PutP C H a A T r p H' → Q p H' := by rintro _ H' ⟨k, T', rfl, h1, h2, h3, h4, h5, h6⟩; exact h k T' H' h1 h2 h3 h4 h5 h6
/-- what a put wants -/
structure Fits (C : Ctx) (H : AH) (a : Addr) (A : KA) (T : Tab) (r : Row) : Prop where
  K : KT C H a A T
  ok : T.Ok
  row : RowOk T r
  len : T.rows.length ≤ 500
  dep : depOf T.dep r ≤ 24
  wei : weiOf T.wei r ≤ 4096
theorem keyd (i : Int) : keyD 3 (.int i) := keyD_int _ _

section
variable {C : Ctx} {p : Params} {mg mb : PySem.Str → Option Value} {H : AH} {a : Addr} {A : KA} {T : Tab}
theorem put_fits (G : Good C mg mb) (ho : Our C p) {r : Row} (F : Fits C H a A T r) : CodeP C 8 (.ref 76) [.val (.ref a), .tup r.pv] H (PutP C H a A T r) := put_sound G ho F.K F.ok F.row F.len F.dep F.wei
theorem array_kind (G : Good C mg mb) (ho : Our C p) {k : Int} (F : Fits C H a A T (.arr k)) : CodeP C 9 (.ref 160) [.val (.ref a), .int k] H (PutP C H a A T (.arr k)) := by
  have K := F.K
  refine our_call G ho (ps := ["kt", "elem"]) rfl rfl rfl (by exact vk2 fun _ _ => rfl) rfl (by decide +kernel) fun sc hsc => ?_
  dsimp only [List.zip_cons_cons, List.zip_nil_left, List.zip_nil_right] at hsc ⊢
  (repeat' (first | fail "W" | fail "R"))
  exact cUse (put_fits G ho F) (by omega) fun _ _ h => seqR (rqR h)
theorem byref_kind (G : Good C mg mb) (ho : Our C p) {k : Int} (F : Fits C H a A T (.byr k)) : CodeP C 9 (.ref 167) [.val (.ref a), .int k] H (PutP C H a A T (.byr k)) := by
  have K := F.K
  refine our_call G ho (ps := ["kt", "inner"]) rfl rfl rfl (by exact vk2 fun _ _ => rfl) rfl (by decide +kernel) fun sc hsc => ?_
  dsimp only [List.zip_cons_cons, List.zip_nil_left, List.zip_nil_right] at hsc ⊢
  (repeat' (first | fail "W" | fail "R"))
  exact cUse (put_fits G ho F) (by omega) fun _ _ h => seqR (rqR h)
theorem var_kind (G : Good C mg mb) (ho : Our C p) {k : Int} (F : Fits C H a A T (.var k)) : CodeP C 9 (.ref 174) [.val (.ref a), .int k] H (PutP C H a A T (.var k)) := by
  have K := F.K
  refine our_call G ho (ps := ["kt", "i"]) rfl rfl rfl (by exact vk2 fun _ _ => rfl) rfl (by decide +kernel) fun sc hsc => ?_
  dsimp only [List.zip_cons_cons, List.zip_nil_left, List.zip_nil_right] at hsc ⊢
  (repeat' (first | fail "W" | fail "R"))
  exact cUse (put_fits G ho F) (by omega) fun _ _ h => seqR (rqR h)
theorem mvar_kind (G : Good C mg mb) (ho : Our C p) {k : Int} (F : Fits C H a A T (.mvar k)) : CodeP C 9 (.ref 181) [.val (.ref a), .int k] H (PutP C H a A T (.mvar k)) := by
  have K := F.K
  refine our_call G ho (ps := ["kt", "i"]) rfl rfl rfl (by exact vk2 fun _ _ => rfl) rfl (by decide +kernel) fun sc hsc => ?_
  dsimp only [List.zip_cons_cons, List.zip_nil_left, List.zip_nil_right] at hsc ⊢
  (repeat' (first | fail "W" | fail "R"))
  exact cUse (put_fits G ho F) (by omega) fun _ _ h => seqR (rqR h)
theorem boxed_kind (G : Good C mg mb) (ho : Our C p) {k : Int} (F : Fits C H a A T (.box k)) : CodeP C 9 (.ref 188) [.val (.ref a), .int k] H (PutP C H a A T (.box k)) := by
  have K := F.K
  refine our_call G ho (ps := ["kt", "k"]) rfl rfl rfl (by exact vk2 fun _ _ => rfl) rfl (by decide +kernel) fun sc hsc => ?_
  dsimp only [List.zip_cons_cons, List.zip_nil_left, List.zip_nil_right] at hsc ⊢
  (repeat' (first | fail "W" | fail "R"))
  exact cUse (put_fits G ho F) (by omega) fun _ _ h => seqR (rqR h)
theorem roref_kind (G : Good C mg mb) (ho : Our C p) {k : Int} (F : Fits C H a A T (.ror k)) : CodeP C 9 (.ref 195) [.val (.ref a), .int k] H (PutP C H a A T (.ror k)) := by
  have K := F.K
  refine our_call G ho (ps := ["kt", "inner"]) rfl rfl rfl (by exact vk2 fun _ _ => rfl) rfl (by decide +kernel) fun sc hsc => ?_
  dsimp only [List.zip_cons_cons, List.zip_nil_left, List.zip_nil_right] at hsc ⊢
  (repeat' (first | fail "W" | fail "R"))
  exact cUse (put_fits G ho F) (by omega) fun _ _ h => seqR (rqR h)
theorem raw_kind (G : Good C mg mb) (ho : Our C p) {k : Int} (F : Fits C H a A T (.raw k)) : CodeP C 9 (.ref 209) [.val (.ref a), .int k] H (PutP C H a A T (.raw k)) := by
  have K := F.K
  refine our_call G ho (ps := ["kt", "owner"]) rfl rfl rfl (by exact vk2 fun _ _ => rfl) rfl (by decide +kernel) fun sc hsc => ?_
  dsimp only [List.zip_cons_cons, List.zip_nil_left, List.zip_nil_right] at hsc ⊢
  (repeat' (first | fail "W" | fail "R"))
  exact cUse (put_fits G ho F) (by omega) fun _ _ h => seqR (rqR h)
theorem class_kind (G : Good C mg mb) (ho : Our C p) {t : Int} {as : List Int} (F : Fits C H a A T (.cls t as)) : CodeP C 9 (.ref 139) [.val (.ref a), .int t, iTp as] H (PutP C H a A T (.cls t as)) := by
  have K := F.K
  refine our_call G ho (ps := ["kt", "tid", "args"]) rfl rfl rfl (by exact vk3 fun _ _ _ => rfl) rfl (by decide +kernel) fun sc hsc => ?_
  dsimp only [List.zip_cons_cons, List.zip_nil_left, List.zip_nil_right] at hsc ⊢
  (repeat' (first | fail "W" | fail "R"))
  refine cInF (f := tidPrim) (by rw [ho.fd]; rfl) ?_
  (repeat' (first | fail "W" | fail "R"))
  refine spIn (tids_ok _ F.row.1).2 ?_
  (repeat' (first | fail "W" | fail "R"))
  exact cUse (put_fits G ho F) (by omega) fun _ _ h => seqR (rqR h)
theorem value_kind (G : Good C mg mb) (ho : Our C p) {t : Int} {as : List Int} (F : Fits C H a A T (.vlu t as)) : CodeP C 9 (.ref 146) [.val (.ref a), .int t, iTp as] H (PutP C H a A T (.vlu t as)) := by
  have K := F.K
  refine our_call G ho (ps := ["kt", "tid", "args"]) rfl rfl rfl (by exact vk3 fun _ _ _ => rfl) rfl (by decide +kernel) fun sc hsc => ?_
  dsimp only [List.zip_cons_cons, List.zip_nil_left, List.zip_nil_right] at hsc ⊢
  (repeat' (first | fail "W" | fail "R"))
  refine cInF (f := tidPrim) (by rw [ho.fd]; rfl) ?_
  (repeat' (first | fail "W" | fail "R"))
  refine spIn (tids_ok _ F.row.1).2 ?_
  (repeat' (first | fail "W" | fail "R"))
  exact cUse (put_fits G ho F) (by omega) fun _ _ h => seqR (rqR h)
theorem ftn_kind (G : Good C mg mb) (ho : Our C p) {o m : Int} {as : List Int} (F : Fits C H a A T (.ftn o m as)) : CodeP C 9 (.ref 202) [.val (.ref a), .int o, .int m, iTp as] H (PutP C H a A T (.ftn o m as)) := by
  have K := F.K
  refine our_call G ho (ps := ["kt", "owner", "mid", "margs"]) rfl rfl rfl (by exact vk4 fun _ _ _ _ => rfl) rfl (by decide +kernel) fun sc hsc => ?_
  dsimp only [List.zip_cons_cons, List.zip_nil_left, List.zip_nil_right] at hsc ⊢
  (repeat' (first | fail "W" | fail "R"))
  exact cUse (put_fits G ho F) (by omega) fun _ _ h => seqR (rqR h)
end
end
section
open PySem PySem.W PySem.Calls PyProof.Rows
open scoped Classical

section
variable {C : Ctx} {p : Params} {mg mb : PySem.Str → Option Value} {H : AH} {a : Addr} {A : KA} {T : Tab} {an : Addr} {nm : Int → Option PySem.Str} {t : Addr}

theorem name_sound (G : Good C mg mb) (ho : Our C p) {j : Nat} (hN : H an = some (.idict (fun k => (nm k).map PV.str) j)) {k : Int} (hk : k ∈ tids) :
    CodeP C 1 (.ref 264) [.int k, .val (.ref an)] H (fun q H' => H' = H ∧ q = .str (nameText nm k)) := by
  have hb : 0 < k ∧ k < 100 := by revert k; decide
  refine our_call G ho (ps := ["tid", "names"]) rfl rfl rfl (by exact vk2 fun _ _ => rfl) rfl (by decide +kernel) fun sc hsc => ?_
  dsimp only [List.zip_cons_cons, List.zip_nil_left, List.zip_nil_right] at hsc ⊢
  (repeat' (first | fail "W" | fail "R"))
  refine cInD hN ?_
  (repeat' (first | fail "W" | fail "R"))
  refine spI (fun q hq => ?_) (fun hq => ?_)
  · (repeat' (first | fail "W" | fail "R"))
    refine gD hN hq ?_
    (repeat' (first | fail "W" | fail "R"))
    obtain ⟨x, hx, rfl⟩ := Option.map_eq_some_iff.mp hq
    exact ⟨rfl, by unfold nameText; rw [hx]; rfl⟩
  · (repeat' (first | fail "W" | fail "R"))
    refine fStr (by omega) ?_
    refine bAS ?_ ?_
    · simp only [tids, List.mem_cons, List.not_mem_nil, or_false] at hk
      rcases hk with rfl | rfl | rfl | rfl | rfl | rfl <;> decide +kernel
    (repeat' (first | fail "W" | fail "R"))
    have hx : nm k = none := by
      cases e : nm k with
      | none => rfl
      | some x => rw [e] at hq; cases hq
    exact ⟨rfl, by unfold nameText; rw [hx]; rfl⟩

theorem show_args_sound (G : Good C mg mb) (ho : Our C p) {n lev N : Nat} {as : List Int} (hs : Sh C H a A T an nm t n) (hl : as.length ≤ 100) (hi : ∀ x ∈ as, 0 ≤ x ∧ x.toNat < T.rows.length)
    (hn : (n : Int) + (as.map fun x => T.wei.getD x.toNat 0).sum ≤ 900000)
    (hP : ∀ x ∈ as, ∀ H n, Sh C H a A T an nm t n → (n : Int) + T.wei.getD x.toNat 0 ≤ 900000 → CodeP C N (.ref 243) [.val (.ref a), .int x, .val (.ref an), .int ((lev + 1 : Nat) : Int), .val (.ref t)] H (ShP C H a A T an nm t n (TX nm T.rows x (lev + 1)) (T.wei.getD x.toNat 0))) :
    CodeP C (N + 1) (.ref 271) [.val (.ref a), iTp as, .val (.ref an), .int (lev : Int), .val (.ref t)] H (ShP C H a A T an nm t n (argsText (TX nm T.rows) as lev) (as.map fun x => T.wei.getD x.toNat 0).sum) := by
  have wnn : ∀ x ∈ as, 1 ≤ T.wei.getD x.toNat 0 := fun x hx => (wei_get hs.ok (hi x hx).2).1
  refine our_call G ho (ps := ["kt", "args", "names", "level", "texts"]) rfl rfl rfl (by exact vk5 fun _ _ _ _ _ => rfl) rfl (by decide +kernel) fun sc hsc => ?_
  dsimp only [List.zip_cons_cons, List.zip_nil_left, List.zip_nil_right] at hsc ⊢
  (repeat' (first | fail "W" | fail "R"))
  refine fLenT (by simp; omega) ?_
  rw [List.length_map]
  (repeat' (first | fail "W" | fail "R"))
  · have e : as = [] := List.eq_nil_of_length_eq_zero (by omega)
    subst e
    exact ⟨rfl, n, by simp, hs, Same.refl _ _⟩
  · refine ⟨?_, n, ?_, hs, Same.refl _ _⟩
    · unfold argsText
      rw [if_neg (by rintro rfl; simp at *), if_pos (by omega)]
    · have := sum_nn (f := fun x => T.wei.getD x.toNat 0) (fun x hx => by have := wnn x hx; omega)
      omega
  · intro c hc
    have hne := hs.ne hc
    (repeat' (first | fail "W" | fail "R"))
    refine itT ?_
    refine loopI (I := fun i m H' => ∃ n' : Nat, (n' : Int) ≤ n + ((as.take i).map fun x => T.wei.getD x.toNat 0).sum ∧ Sh C H' a A T an nm t n' ∧ Same [t] H H' ∧ H' c = some (.list ((as.take i).map fun x => .str (TX nm T.rows x (lev + 1)))) ∧
      ∃ l2, (l2 = [] ∨ ∃ v, l2 = [("arg", v)]) ∧ m = L ([("kt", .val (.ref a)), ("args", iTp as), ("names", .val (.ref an)), ("level", .int (lev : Int)), ("texts", .val (.ref t)), ("out", .val (.ref c))] ++ l2))
      ⟨n, by simp, hs.set hne, (Same.refl [t] H).setFresh hc _, hset, [], .inl rfl, rfl⟩ (fun _ _ _ _ _ => trivial) ?_ ?_
    · rintro i q m H' K' hq ⟨n', hn', hs', hS, hcl, l2, hl2, rfl⟩ kn _
      rw [List.getElem?_map] at hq
      obtain ⟨x, hx, rfl⟩ := Option.map_eq_some_iff.mp hq
      have hxm := List.mem_of_getElem? hx
      have tk : as.take (i + 1) = as.take i ++ [x] := by rw [List.take_add_one, hx]; rfl
      obtain ⟨s1, s2⟩ := sum_take (f := fun x => T.wei.getD x.toNat 0) (fun x hx => by have := wnn x hx; omega) hx
      refine aName (by (first | decide +kernel | (subst_vars; decide +kernel))) (l' := [("kt", .val (.ref a)), ("args", iTp as), ("names", .val (.ref an)), ("level", .int (lev : Int)), ("texts", .val (.ref t)), ("out", .val (.ref c)), ("arg", .int x)]) (by rcases hl2 with rfl | ⟨v, rfl⟩ <;> simp [upd]) ?_
      (repeat' (first | fail "W" | fail "R"))
      refine mApp hcl ?_
      (repeat' (first | fail "W" | fail "R"))
      refine cUse (hP x hxm H' n' hs' (by omega)) (Nat.le_refl _) (ShP.el fun n2 H2 hn2 hs2 hS2 => ?_)
      (repeat' (first | fail "W" | fail "R"))
      have hct : c ≠ t := Ne.symm (hne t (by first | exact nil_out | exact fun _ _ => nil_out | exact fun _ h => (nil_out h).elim | exact fun e => AObj.noConfusion e | exact mem_at 0 rfl | exact mem_at 1 rfl | exact mem_at 2 rfl | exact mem_at 3 rfl | exact mem_at 4 rfl | exact mem_at 5 rfl | exact mem_at 6 rfl | exact mem_at 7 rfl | exact mem_at 8 rfl | exact mem_at 9 rfl | simp))
      have hcl2 := hS2 c _ hcl (by simpa using hct)
      refine rApp hcl2 (by simp; omega) ?_
      (repeat' (first | fail "W" | fail "R"))
      refine kn _ _ ⟨n2, by omega, hs2.set hne, (hS.trans hS2).setFresh hc _, ?_, [("arg", .int x)], .inr ⟨_, rfl⟩, rfl⟩
      rw [hset, tk]; simp
    · rintro m H' ⟨n', hn', hs', hS, hcl, l2, hl2, rfl⟩
      rw [List.length_map, List.take_length] at hn' hcl
      have hj : ∀ y ∈ (as.map fun x => TX nm T.rows x (lev + 1)), y.length ≤ 98304 := fun y hy => by
        obtain ⟨x, hx, rfl⟩ := List.mem_map.mp hy
        exact TX_small hs.ok hs.nmok (hi x hx).2 _
      have hjl := sum_small hj
      have hjj := join_len (Str.ofString ", ") (as.map fun x => TX nm T.rows x (lev + 1))
      have e2 : (Str.ofString ", ").length = 2 := (S_len ", ").trans (by decide +kernel)
      have e1 : (Str.ofString "<").length = 1 := (S_len "<").trans (by decide +kernel)
      have e3 : (Str.ofString ">").length = 1 := (S_len ">").trans (by decide +kernel)
      rw [e2] at hjj
      simp only [List.length_map] at hjl hjj
      rcases hl2 with rfl | ⟨v, rfl⟩ <;> dsimp only [List.cons_append, List.nil_append]
      all_goals
        ((repeat' (first | fail "W" | fail "R"))
         refine mJoin ?_
         (repeat' (first | fail "W" | fail "R"))
         refine rJoin (ys := as.map fun x => TX nm T.rows x (lev + 1)) hcl (by rw [List.map_map]; rfl) (by rw [e2]; simp only [List.length_map]; omega) ?_
         refine bAS (by rw [e1]; omega) ?_
         (repeat' (first | fail "W" | fail "R"))
         refine bAS (by rw [app_len, e1, e3]; omega) ?_
         (repeat' (first | fail "W" | fail "R"))
         refine ⟨?_, n', hn', hs', hS⟩
         unfold argsText
         rw [if_neg (by rintro rfl; simp at *), if_neg (by omega)])
end
end
section
open PySem PySem.W PySem.Calls PyProof.Rows
open scoped Classical

section
variable {C : Ctx} {p : Params} {mg mb : PySem.Str → Option Value} {H : AH} {a : Addr} {A : KA} {T : Tab} {an : Addr} {nm : Int → Option PySem.Str} {t : Addr}

theorem core_sound (G : Good C mg mb) (ho : Our C p) {n lev k : Nat} {r : Row} (hs : Sh C H a A T an nm t n) (hr : T.rows[k]? = some r) (ih : ∀ x, x < k → LevelOk C a A T an nm t x)
    (hw : r.sort = 1 ∨ r.sort = 2 ∨ r.sort = 3 ∨ r.sort = 6 ∨ r.sort = 7 ∨ r.sort = 10) (hn : (n : Int) + T.wei.getD k 0 ≤ 900000) :
    CodeP C (4 * k + 4) (.ref 257) [.val (.ref a), .int (k : Int), .tup r.pv, .val (.ref an), .int (lev : Int), .val (.ref t)] H (ShP C H a A T an nm t n (TX nm T.rows k lev) (T.wei.getD k 0 - 1)) := by
  have hk := (List.getElem?_eq_some_iff.mp hr).1
  have hT := hs.ok
  have hwr := wei_row hT hr
  have hwk := wei_get hT hk
  have hin := hT.inn k r hr
  have hin2 : ∀ x ∈ r.inner, 0 ≤ x ∧ x.toNat < T.rows.length := fun x hx => by have := hin x hx; omega
  obtain ⟨hnum, hlen⟩ := hT.num k r hr
  obtain ⟨jn, hN⟩ := hs.names
  have hTX := TX_eq (nm := nm) hT.inn (k := (k : Int)) (r := r) (by simpa using hr) lev
  refine our_call G ho (ps := ["kt", "k", "row", "names", "level", "texts"]) rfl rfl rfl (by exact vk6 fun _ _ _ _ _ _ => rfl) rfl (by decide +kernel) fun sc hsc => ?_
  dsimp only [List.zip_cons_cons, List.zip_nil_left, List.zip_nil_right] at hsc ⊢
  (repeat' (first | fail "W"))
  refine gT (by omega) (pv0 r) ?_
  have hl500 := hs.len
  cases r with
  | prim m =>
    dsimp only [Row.sort, Row.pv] at *
    (repeat' (first | fail "W" | fail "R"))
    obtain ⟨rfl, h16⟩ := hT.pr k m hr
    refine gT (by omega) (itemAt_nat (primW_get h16)) ?_
    (repeat' (first | fail "W" | fail "R"))
    exact ⟨by rw [hTX]; rfl, n, by omega, hs, Same.refl _ _⟩
  | cls tt as =>
    dsimp only [Row.sort, Row.pv] at *
    (repeat' (first | fail "W" | fail "R"))
    refine gT (by decide) (itemAt_of (by decide) rfl) ?_
    (repeat' (first | fail "W" | fail "R"))
    refine cUse (name_sound G ho hN hnum) (by omega) (elA ?_)
    (repeat' (first | fail "W" | fail "R"))
    refine gT (by decide) (itemAt_of (by decide) rfl) ?_
    (repeat' (first | fail "W" | fail "R"))
    have hb := name_len hs.nmok (t := tt) hnum
    have hb2 := args_small (lev := lev) hT hs.nmok hin2 (by omega)
    refine cUse (show_args_sound G ho (N := 4 * k + 2) hs hlen hin2 (by simp only [Row.inner] at *; omega) (fun x hx H n hs hn => (ih x.toNat (by have := hin x hx; omega)).use (hin x hx).1 hs hn (by have := hin x hx; omega))) (by omega) (ShP.el fun n2 H2 hn2 hs2 hS2 => ?_)
    refine bAS (by simp only [Row.inner] at *; omega) ?_
    (repeat' (first | fail "W" | fail "R"))
    exact ⟨by rw [hTX]; rfl, n2, by simp only [Row.inner] at *; omega, hs2, hS2⟩
  | vlu tt as =>
    dsimp only [Row.sort, Row.pv] at *
    (repeat' (first | fail "W" | fail "R"))
    refine gT (by decide) (itemAt_of (by decide) rfl) ?_
    (repeat' (first | fail "W" | fail "R"))
    refine cUse (name_sound G ho hN hnum) (by omega) (elA ?_)
    (repeat' (first | fail "W" | fail "R"))
    refine gT (by decide) (itemAt_of (by decide) rfl) ?_
    (repeat' (first | fail "W" | fail "R"))
    have hb := name_len hs.nmok (t := tt) hnum
    have hb2 := args_small (lev := lev) hT hs.nmok hin2 (by omega)
    refine cUse (show_args_sound G ho (N := 4 * k + 2) hs hlen hin2 (by simp only [Row.inner] at *; omega) (fun x hx H n hs hn => (ih x.toNat (by have := hin x hx; omega)).use (hin x hx).1 hs hn (by have := hin x hx; omega))) (by omega) (ShP.el fun n2 H2 hn2 hs2 hS2 => ?_)
    refine bAS (by simp only [Row.inner] at *; omega) ?_
    (repeat' (first | fail "W" | fail "R"))
    exact ⟨by rw [hTX]; rfl, n2, by simp only [Row.inner] at *; omega, hs2, hS2⟩
  | var i =>
    have hb := num_len (m := i) (.inr hnum)
    have hi : 0 ≤ i ∧ i < 10 := places_rg _ hnum
    dsimp only [Row.sort, Row.pv] at *
    (repeat' (first | fail "W" | fail "R"))
    refine gT (by decide) (itemAt_of (by decide) rfl) ?_
    (repeat' (first | fail "W" | fail "R"))
    refine fStr (by omega) ?_
    refine bAS (by rw [show (Str.ofString "!").length = 1 from (S_len "!").trans (by decide +kernel)]; unfold S at hb; omega) ?_
    (repeat' (first | fail "W" | fail "R"))
    exact ⟨by rw [hTX]; rfl, n, by omega, hs, Same.refl _ _⟩
  | mvar i =>
    have hb := num_len (m := i) (.inr hnum)
    have hi : 0 ≤ i ∧ i < 10 := places_rg _ hnum
    dsimp only [Row.sort, Row.pv] at *
    (repeat' (first | fail "W" | fail "R"))
    refine gT (by decide) (itemAt_of (by decide) rfl) ?_
    (repeat' (first | fail "W" | fail "R"))
    refine fStr (by omega) ?_
    refine bAS (by rw [show (Str.ofString "!!").length = 2 from (S_len "!!").trans (by decide +kernel)]; unfold S at hb; omega) ?_
    (repeat' (first | fail "W" | fail "R"))
    exact ⟨by rw [hTX]; rfl, n, by omega, hs, Same.refl _ _⟩
  | ftn o m as =>
    have hm : 0 ≤ m ∧ m < 10 := mids_rg _ hnum
    have hb := num_len (m := m) (.inl hnum)
    have hoi := hin o (by simp [Row.inner])
    have hai : ∀ x ∈ as, 0 ≤ x ∧ x < k := fun x hx => hin x (List.mem_cons_of_mem _ hx)
    have hai2 : ∀ x ∈ as, 0 ≤ x ∧ x.toNat < T.rows.length := fun x hx => hin2 x (List.mem_cons_of_mem _ hx)
    have hwo := wei_get hT (k := o.toNat) (by omega)
    have hlo := TX_small hT hs.nmok (k := o) (by omega) (lev + 1)
    have hsn : 0 ≤ (as.map fun x => T.wei.getD x.toNat 0).sum := sum_nn fun x hx => by have := wei_get hT (hai2 x hx).2; omega
    simp only [Row.inner, List.map_cons, List.sum_cons, List.length_cons] at hwr hlen
    dsimp only [Row.sort, Row.pv] at *
    (repeat' (first | fail "W" | fail "R"))
    refine gT (by decide) (itemAt_of (by decide) rfl) ?_
    (repeat' (first | fail "W" | fail "R"))
    refine cUse ((ih o.toNat (by omega)).use (lev := lev + 1) hoi.1 hs (by omega) (N := 4 * k + 2) (by omega)) (by omega) (ShP.el fun n2 H2 hn2 hs2 hS2 => ?_)
    (repeat' (first | fail "W" | fail "R"))
    refine bAS (by rw [show (Str.ofString "method ").length = 7 from (S_len "method ").trans (by decide +kernel)]; omega) ?_
    (repeat' (first | fail "W" | fail "R"))
    have l7 : (Str.ofString "method ").length = 7 := (S_len "method ").trans (by decide +kernel)
    have l2 : (Str.ofString "::").length = 2 := (S_len "::").trans (by decide +kernel)
    unfold S at hb
    refine bAS (by rw [app_len, l7, l2]; omega) ?_
    (repeat' (first | fail "W" | fail "R"))
    refine gT (by decide) (itemAt_of (by decide) rfl) ?_
    (repeat' (first | fail "W" | fail "R"))
    refine fStr (by omega) ?_
    refine bAS (by rw [app_len, app_len, l7, l2]; omega) ?_
    (repeat' (first | fail "W" | fail "R"))
    refine gT (by decide) (itemAt_of (by decide) rfl) ?_
    (repeat' (first | fail "W" | fail "R"))
    have hb2 := args_small (lev := lev) hT hs.nmok hai2 (by omega)
    refine cUse (show_args_sound G ho (N := 4 * k + 2) hs2 (by omega) hai2 (by omega) (fun x hx H n hs hn => (ih x.toNat (by have := hai x hx; omega)).use (hai x hx).1 hs hn (by have := hai x hx; omega))) (by omega) (ShP.el fun n3 H3 hn3 hs3 hS3 => ?_)
    refine bAS (by rw [app_len, app_len, app_len, l7, l2]; omega) ?_
    (repeat' (first | fail "W" | fail "R"))
    exact ⟨by rw [hTX]; rfl, n3, by omega, hs3, hS2.trans hS3⟩
  | _ => simp [Row.sort] at hw

theorem parts_sound (G : Good C mg mb) (ho : Our C p) {n lev k : Nat} (hs : Sh C H a A T an nm t n) (hk : k < T.rows.length) (ih : ∀ x, x < k → LevelOk C a A T an nm t x)
    (hn : (n : Int) + T.wei.getD k 0 ≤ 900000) :
    CodeP C (4 * k + 5) (.ref 250) [.val (.ref a), .int (k : Int), .val (.ref an), .int (lev : Int), .val (.ref t)] H (ShP C H a A T an nm t n (TX nm T.rows k lev) (T.wei.getD k 0 - 1)) := by
  have hT := hs.ok
  have hl500 := hs.len
  have K := hs.K
  have e := List.getElem?_eq_getElem hk
  generalize hr : T.rows[k] = r at e
  have hsm := TX_small hT hs.nmok (k := (k : Int)) (by simpa using hk) lev
  refine our_call G ho (ps := ["kt", "k", "names", "level", "texts"]) rfl rfl rfl (by exact vk5 fun _ _ _ _ _ => rfl) rfl (by decide +kernel) fun sc hsc => ?_
  dsimp only [List.zip_cons_cons, List.zip_nil_left, List.zip_nil_right] at hsc ⊢
  (repeat' (first | fail "W" | fail "R"))
  refine cUse (row_sound G ho K (k := (k : Int)) (by omega) (by simpa using e) (by omega)) (by omega) (elA ?_)
  (repeat' (first | fail "W" | fail "R"))
  refine sWhi (I := fun j m H' => H' = H ∧ ∃ (r' : Row) (be bh : PySem.Str) (l2 : List (String × PV)), T.rows[j]? = some r' ∧ j ≤ k ∧ T.wei.getD j 0 ≤ T.wei.getD k 0 ∧ TX nm T.rows k lev = be ++ TX nm T.rows j lev ++ bh ∧ (l2 = [] ∨ ∃ v, l2 = [("words", v)]) ∧
      m = L ([("kt", .val (.ref a)), ("k", .int (j : Int)), ("names", .val (.ref an)), ("level", .int (lev : Int)), ("texts", .val (.ref t)), ("before", .str be), ("behind", .str bh), ("row", .tup r'.pv)] ++ l2))
      k ⟨rfl, r, S "", S "", [], e, Nat.le_refl _, Int.le_refl _, by rw [str_nil_app, str_app_nil], .inl rfl, rfl⟩ ?_
  rintro j m H' ⟨rfl, r', be, bh, l2, hr', hjk, hwj, htx, hl2, rfl⟩
  have hjl := (List.getElem?_eq_some_iff.mp hr').1
  have hin := hT.inn j r' hr'
  have hTX := TX_eq (nm := nm) hT.inn (k := (j : Int)) (r := r') (by simpa using hr') lev
  have hlen := congrArg PySem.Str.length htx
  rw [app_len, app_len] at hlen
  have hwr := wei_row hT hr'
  have hwj1 := wei_get hT hjl
  rcases wrap_cases r' with ⟨x, pre, post, h1, h2, h3, h4, h5, h6⟩ | ⟨h1, h2⟩
  · have hx := hin x (by rw [h3]; simp)
    have ex : ((x.toNat : Nat) : Int) = x := Int.toNat_of_nonneg hx.1
    have eqx := List.getElem?_eq_getElem (l := T.rows) (i := x.toNat) (by omega)
    generalize hq : T.rows[x.toNat] = q at eqx
    rw [h3, List.map_cons, List.map_nil, List.sum_cons, List.sum_nil] at hwr
    have hx1 := wei_get hT (k := x.toNat) (by omega)
    rcases hl2 with rfl | ⟨v, rfl⟩ <;> dsimp only [List.cons_append, List.nil_append]
    all_goals
      ((repeat' (first | fail "W" | fail "R"))
       refine gT (by omega) (pv0 r') ?_
       (repeat' (first | fail "W" | fail "R"))
       refine cInF (f := around) (by rw [ho.fd]; rfl) ?_
       (repeat' (first | fail "W" | fail "R"))
       refine spIs h1 ?_
       (repeat' (first | fail "W" | fail "R"))
       refine gT (by omega) (pv0 r') ?_
       refine gF (f := around) (by rw [ho.fd]; rfl) h1 ?_
       (repeat' (first | fail "W" | fail "R"))
       refine gT (by decide) (itemAt_of (by decide) rfl) ?_
       refine bAS (by omega) ?_
       (repeat' (first | fail "W" | fail "R"))
       refine gT (by decide) (itemAt_of (by decide) rfl) ?_
       (repeat' (first | fail "W" | fail "R"))
       refine bAS (by omega) ?_
       (repeat' (first | fail "W" | fail "R"))
       rw [h2]
       refine gT (by decide) (itemAt_of (by decide) rfl) ?_
       (repeat' (first | fail "W" | fail "R"))
       refine cUse (row_sound G ho K hx.1 eqx (by omega)) (by omega) (elA ?_)
       (repeat' (first | fail "W" | fail "R"))
       refine whN x.toNat (by omega) ⟨rfl, q, be ++ Str.ofString pre, Str.ofString post ++ bh, [("words", _)], eqx, by omega, by omega, ?_, .inr ⟨_, rfl⟩, by rw [ex]⟩
       rw [htx, hTX, h6, ex]
       simp only [PySem.Str.append_assoc])
  · rcases hl2 with rfl | ⟨v, rfl⟩ <;> dsimp only [List.cons_append, List.nil_append]
    all_goals
      ((repeat' (first | fail "W" | fail "R"))
       refine gT (by omega) (pv0 r') ?_
       (repeat' (first | fail "W" | fail "R"))
       refine cInF (f := around) (by rw [ho.fd]; rfl) ?_
       (repeat' (first | fail "W" | fail "R"))
       refine spIn h1 ?_
       (repeat' (first | fail "W" | fail "R"))
       refine cUse (core_sound G ho (lev := lev) hs hr' (fun y hy => ih y (by omega)) h2 (by omega)) (by omega) (ShP.el fun n2 H2 hn2 hs2 hS2 => ?_)
       refine bAS (by omega) ?_
       (repeat' (first | fail "W" | fail "R"))
       refine bAS (by rw [app_len]; omega) ?_
       (repeat' (first | fail "W" | fail "R"))
       exact ⟨by rw [htx], n2, by omega, hs2, hS2⟩)

theorem level_all (G : Good C mg mb) (ho : Our C p) : ∀ k : Nat, k < T.rows.length → LevelOk C a A T an nm t k := by
  intro k
  induction k using Nat.strongRecOn with
  | _ k ih =>
    intro hk H n lev hs hn
    have hT := hs.ok
    have hwk := wei_get hT hk
    refine Mine.ex2 hs.memo fun m hm hmo => ?_
    have hkey : keyD 3 (.tup [.int (k : Int), .int (lev : Int)]) := by simp [keyD]
    refine our_call G ho (ps := ["kt", "k", "names", "level", "texts"]) rfl rfl rfl (by exact vk5 fun _ _ _ _ _ => rfl) rfl (by decide +kernel) fun sc hsc => ?_
    dsimp only [List.zip_cons_cons, List.zip_nil_left, List.zip_nil_right] at hsc ⊢
    (repeat' (first | fail "W" | fail "R"))
    refine cNinT hm hkey ?_
    (repeat' (first | fail "W" | fail "R"))
    refine spNI (fun he => ?_) (fun q hq => ?_)
    · (repeat' (first | fail "W" | fail "R"))
      refine cUse (parts_sound G ho (lev := lev) hs hk (fun x hx => ih x hx (by omega)) hn) (by omega) (ShP.el fun n2 H2 hn2 hs2 hS2 => ?_)
      refine Mine.ex2 hs2.memo fun m2 hm2 hmo2 => ?_
      (repeat' (first | fail "W" | fail "R"))
      refine sIDt hm2 hkey (by omega) ?_
      (repeat' (first | fail "W" | fail "R"))
      refine gK hset hkey (if_pos rfl) ?_
      (repeat' (first | fail "W" | fail "R"))
      refine ⟨rfl, n2 + 1, by omega, hs2.put (fun ks v e => ?_), hS2.trans Same.set⟩
      split at e
      · rename_i ek; cases e; exact ⟨k, lev, ek, rfl⟩
      · exact hmo2 ks v e
    · (repeat' (first | fail "W" | fail "R"))
      refine gK hm hkey hq ?_
      (repeat' (first | fail "W" | fail "R"))
      obtain ⟨k', lev', e1, e2⟩ := hmo _ _ hq
      simp only [List.cons.injEq, PV.int.injEq, Int.natCast_inj, and_true] at e1
      obtain ⟨rfl, rfl⟩ := e1
      exact ⟨e2, n, by omega, hs, Same.refl _ _⟩
end
end
section
open PySem PySem.W PySem.Calls PyProof.Rows
open scoped Classical

section
variable {C : Ctx} {p : Params} {mg mb : PySem.Str → Option Value} {H : AH} {a : Addr} {A : KA} {T : Tab} {an : Addr} {nm : Int → Option PySem.Str}

theorem kind_sound (G : Good C mg mb) (ho : Our C p) (K : KT C H a A T) (hT : T.Ok) (hl : T.rows.length ≤ 500) {j : Nat} (hN : H an = some (.idict (fun k => (nm k).map PV.str) j)) (hn : NmOk nm) {k : Nat} (hk : k < T.rows.length) :
    CodeP C (4 * k + 7) (.ref 236) [.val (.ref a), .int (k : Int), .val (.ref an)] H (fun q H' => q = .str (TX nm T.rows k 0) ∧ Same [] H H') := by
  have hwk := wei_get hT hk
  refine our_call G ho (ps := ["kt", "k", "names"]) rfl rfl rfl (by exact vk3 fun _ _ _ => rfl) rfl (by decide +kernel) fun sc hsc => ?_
  dsimp only [List.zip_cons_cons, List.zip_nil_left, List.zip_nil_right] at hsc ⊢
  (repeat' (first | fail "W" | fail "R"))
  refine iDic0 fun c hc => ?_
  (repeat' (first | fail "W" | fail "R"))
  refine cUse (level_all G ho k hk _ 0 0 (Sh.start K hT hl hN hn hc) (by omega)) (by omega) (ShP.el fun n2 H2 hn2 hs2 hS2 => ?_)
  (repeat' (first | fail "W" | fail "R"))
  exact ⟨rfl, Same.ofFresh hc hS2⟩

theorem init_sound (G : Good C mg mb) (ho : Our C p) {x d : Addr} (hx : H x = some (.inst C.KT d)) (hd : H d = some (.ns (fun _ => none) 0)) :
    CodeP C 1 (.ref 62) [.val (.ref x)] H (fun q H' => q = .none ∧ ∃ A T, KT C H' x A T ∧ T.Ok ∧ T.rows = (List.range 16).map (fun (i : Nat) => Row.prim i) ∧ A.d = d ∧ Same [d] H H' ∧ ∀ b ∈ [A.r, A.i, A.p, A.w, A.o], H b = none) := by
  refine our_call G ho (ps := ["self"]) rfl rfl rfl (by exact vk1 fun _ => rfl) rfl (by decide +kernel) fun sc hsc => ?_
  dsimp only [List.zip_cons_cons, List.zip_nil_left, List.zip_nil_right] at hsc ⊢
  (repeat' (first | fail "W" | fail "R"))
  intro c1 h1
  (repeat' (first | fail "W" | fail "R"))
  have xd : x ≠ d := ne_kind hx hd (by first | exact nil_out | exact fun _ _ => nil_out | exact fun _ h => (nil_out h).elim | exact fun e => AObj.noConfusion e | exact mem_at 0 rfl | exact mem_at 1 rfl | exact mem_at 2 rfl | exact mem_at 3 rfl | exact mem_at 4 rfl | exact mem_at 5 rfl | exact mem_at 6 rfl | exact mem_at 7 rfl | exact mem_at 8 rfl | exact mem_at 9 rfl | simp)
  refine stA (fs := fun _ => none) (j := 0) (hset_ne (ne_fresh hx h1) hx) (our_attr ho (by first | exact nil_out | exact fun _ _ => nil_out | exact fun _ h => (nil_out h).elim | exact fun e => AObj.noConfusion e | exact mem_at 0 rfl | exact mem_at 1 rfl | exact mem_at 2 rfl | exact mem_at 3 rfl | exact mem_at 4 rfl | exact mem_at 5 rfl | exact mem_at 6 rfl | exact mem_at 7 rfl | exact mem_at 8 rfl | exact mem_at 9 rfl | simp)) (hset_ne (ne_fresh hd h1) hd) (by omega) ?_
  obtain ⟨x1, d1, g1, n1, S1⟩ := initStep (o := .list []) (fs' := fun y => if y = Str.ofString "rows" then some (PV.val (.ref c1)) else none) hx hd h1
  generalize hH1 : AH.set (AH.set H c1 _) d _ = H1 at x1 d1 g1 S1 ⊢
  (repeat' (first | fail "W" | fail "R"))
  refine iDic0 fun c2 h2 => ?_
  (repeat' (first | fail "W" | fail "R"))
  refine stA (hset_ne (ne_fresh x1 h2) x1) (our_attr ho (by first | exact nil_out | exact fun _ _ => nil_out | exact fun _ h => (nil_out h).elim | exact fun e => AObj.noConfusion e | exact mem_at 0 rfl | exact mem_at 1 rfl | exact mem_at 2 rfl | exact mem_at 3 rfl | exact mem_at 4 rfl | exact mem_at 5 rfl | exact mem_at 6 rfl | exact mem_at 7 rfl | exact mem_at 8 rfl | exact mem_at 9 rfl | simp)) (hset_ne (ne_fresh d1 h2) d1) (by omega) ?_
  obtain ⟨x2, d2, g2, n2, S2⟩ := initStep (o := .tdict (fun _ => none) 0) (fs' := fun y => if y = Str.ofString "index" then some (PV.val (.ref c2)) else if y = Str.ofString "rows" then some (PV.val (.ref c1)) else none) x1 d1 h2
  generalize hH2 : AH.set (AH.set H1 c2 _) d _ = H2 at x2 d2 g2 S2 ⊢
  (repeat' (first | fail "W" | fail "R"))
  intro c3 h3
  (repeat' (first | fail "W" | fail "R"))
  refine stA (hset_ne (ne_fresh x2 h3) x2) (our_attr ho (by first | exact nil_out | exact fun _ _ => nil_out | exact fun _ h => (nil_out h).elim | exact fun e => AObj.noConfusion e | exact mem_at 0 rfl | exact mem_at 1 rfl | exact mem_at 2 rfl | exact mem_at 3 rfl | exact mem_at 4 rfl | exact mem_at 5 rfl | exact mem_at 6 rfl | exact mem_at 7 rfl | exact mem_at 8 rfl | exact mem_at 9 rfl | simp)) (hset_ne (ne_fresh d2 h3) d2) (by omega) ?_
  obtain ⟨x3, d3, g3, n3, S3⟩ := initStep (o := .list []) (fs' := fun y => if y = Str.ofString "depths" then some (PV.val (.ref c3)) else if y = Str.ofString "index" then some (PV.val (.ref c2)) else if y = Str.ofString "rows" then some (PV.val (.ref c1)) else none) x2 d2 h3
  generalize hH3 : AH.set (AH.set H2 c3 _) d _ = H3 at x3 d3 g3 S3 ⊢
  (repeat' (first | fail "W" | fail "R"))
  intro c4 h4
  (repeat' (first | fail "W" | fail "R"))
  refine stA (hset_ne (ne_fresh x3 h4) x3) (our_attr ho (by first | exact nil_out | exact fun _ _ => nil_out | exact fun _ h => (nil_out h).elim | exact fun e => AObj.noConfusion e | exact mem_at 0 rfl | exact mem_at 1 rfl | exact mem_at 2 rfl | exact mem_at 3 rfl | exact mem_at 4 rfl | exact mem_at 5 rfl | exact mem_at 6 rfl | exact mem_at 7 rfl | exact mem_at 8 rfl | exact mem_at 9 rfl | simp)) (hset_ne (ne_fresh d3 h4) d3) (by omega) ?_
  obtain ⟨x4, d4, g4, n4, S4⟩ := initStep (o := .list []) (fs' := fun y => if y = Str.ofString "weights" then some (PV.val (.ref c4)) else if y = Str.ofString "depths" then some (PV.val (.ref c3)) else if y = Str.ofString "index" then some (PV.val (.ref c2)) else if y = Str.ofString "rows" then some (PV.val (.ref c1)) else none) x3 d3 h4
  generalize hH4 : AH.set (AH.set H3 c4 _) d _ = H4 at x4 d4 g4 S4 ⊢
  (repeat' (first | fail "W" | fail "R"))
  intro c5 h5
  (repeat' (first | fail "W" | fail "R"))
  refine stA (hset_ne (ne_fresh x4 h5) x4) (our_attr ho (by first | exact nil_out | exact fun _ _ => nil_out | exact fun _ h => (nil_out h).elim | exact fun e => AObj.noConfusion e | exact mem_at 0 rfl | exact mem_at 1 rfl | exact mem_at 2 rfl | exact mem_at 3 rfl | exact mem_at 4 rfl | exact mem_at 5 rfl | exact mem_at 6 rfl | exact mem_at 7 rfl | exact mem_at 8 rfl | exact mem_at 9 rfl | simp)) (hset_ne (ne_fresh d4 h5) d4) (by omega) ?_
  obtain ⟨x5, d5, g5, n5, S5⟩ := initStep (o := .list []) (fs' := fun y => if y = Str.ofString "opens" then some (PV.val (.ref c5)) else if y = Str.ofString "weights" then some (PV.val (.ref c4)) else if y = Str.ofString "depths" then some (PV.val (.ref c3)) else if y = Str.ofString "index" then some (PV.val (.ref c2)) else if y = Str.ofString "rows" then some (PV.val (.ref c1)) else none) x4 d4 h5
  generalize hH5 : AH.set (AH.set H4 c5 _) d _ = H5 at x5 d5 g5 S5 ⊢
  have g1' : H5 c1 = some (.list []) := S5 _ _ (S4 _ _ (S3 _ _ (S2 _ _ g1 n1) n1) n1) n1
  have g2' : H5 c2 = some (.tdict (fun _ => none) 0) := S5 _ _ (S4 _ _ (S3 _ _ g2 n2) n2) n2
  have g3' : H5 c3 = some (.list []) := S5 _ _ (S4 _ _ g3 n3) n3
  have g4' : H5 c4 = some (.list []) := S5 _ _ g4 n4
  have SS : Same [d] H H5 := (((S1.trans S2).trans S3).trans S4).trans S5
  have q13 : c1 ≠ c3 := ne_fresh (S2 _ _ g1 n1) h3
  have q14 : c1 ≠ c4 := ne_fresh (S3 _ _ (S2 _ _ g1 n1) n1) h4
  have q15 : c1 ≠ c5 := ne_fresh (S4 _ _ (S3 _ _ (S2 _ _ g1 n1) n1) n1) h5
  have q34 : c3 ≠ c4 := ne_fresh g3 h4
  have q35 : c3 ≠ c5 := ne_fresh (S4 _ _ g3 n3) h5
  have q45 : c4 ≠ c5 := ne_fresh g4 h5
  have K5 : KT C H5 x ⟨d, c1, c2, c3, c4, c5⟩ baseTab := by
    refine ⟨⟨x5, _, _, d5, ?_, ?_, ?_, ?_, ?_, ?_, ?_⟩, g1', ⟨0, ?_, Nat.le_refl _⟩, g3', g4', g5, q13, q14, q15, q34, q35, q45⟩
    · simp [str_eq]
    · simp [str_eq]
    · simp [str_eq]
    · simp [str_eq]
    · simp [str_eq]
    · simp [str_eq]
    · simp [str_eq]
    · exact g2'
  have fr : ∀ {b : Addr} {H6 : AH}, Same [d] H H6 → H6 b = none → b ≠ d → H b = none := fun s e n => by
    cases q : H _ with
    | none => rfl
    | some o => have := s _ o q (out_sing n); rw [e] at this; cases this
  have f1 : H c1 = none := h1
  have f2 : H c2 = none := fr S1 h2 (fun q => n2 (List.mem_singleton.mpr q))
  have f3 : H c3 = none := fr (S1.trans S2) h3 (fun q => n3 (List.mem_singleton.mpr q))
  have f4 : H c4 = none := fr ((S1.trans S2).trans S3) h4 (fun q => n4 (List.mem_singleton.mpr q))
  have f5 : H c5 = none := fr (((S1.trans S2).trans S3).trans S4) h5 (fun q => n5 (List.mem_singleton.mpr q))
  clear hH1 hH2 hH3 hH4 hH5 x1 x2 x3 x4 x5 d1 d2 d3 d4 d5 g1 g2 g3 g4 g5 S1 S2 S3 S4 S5 g1' g2' g3' g4' h2 h3 h4 h5
  (repeat' (first | fail "W" | fail "R"))
  refine fRng1 ⟨by omega, by omega, .inl rfl⟩ ?_
  refine itR ⟨by omega, by omega, .inl rfl⟩ ?_
  have hf : ∀ b ∈ [c1, c2, c3, c4, c5], H b = none := al_cons f1 (al_cons f2 (al_cons f3 (al_cons f4 (sing f5))))
  refine loopI (I := fun i m H' => ∃ T l2, KT C H' x ⟨d, c1, c2, c3, c4, c5⟩ T ∧ T.Ok ∧ T.rows = (List.range i).map (fun (k : Nat) => Row.prim k) ∧ Same [d] H H' ∧ Only l2 ["number", "row"] ∧ m = L (("self", .val (.ref x)) :: l2))
    ⟨baseTab, [], K5, baseTab_ok, rfl, SS, Only.nil, rfl⟩ (fun _ _ _ _ _ => trivial) ?_ ?_
  · rintro i q m H' K' hq ⟨T, l2, K, hT, hrows, hS, hl2, rfl⟩ kn _
    obtain ⟨hqe, hi16⟩ := rng_get hq
    have hlen : T.rows.length = i := by rw [hrows, List.length_map, List.length_range]
    subst hlen hqe
    obtain ⟨j, hix, hj⟩ := K.ix
    have hno : ∀ k : Nat, T.rows[k]? ≠ some (.prim T.rows.length) := fun k hk => by
      have h1 := (hT.pr k _ hk).1
      have h2 := (List.getElem?_eq_some_iff.mp hk).1
      omega
    have e : ixOf T.rows (Row.prim T.rows.length).pv = none := by
      rcases ix_cases T.rows (.prim T.rows.length) with ⟨k, _, hk⟩ | ⟨e, _⟩
      · exact absurd hk (hno k)
      · exact e
    have hkey : keyD 3 (.tup [.int 1, .int T.rows.length]) := tup_key (r := .prim T.rows.length) (Nat.zero_le _)
    obtain ⟨k1, i1, k2, p2, k3, w3, k4, o4, k5, s5⟩ := put5 (r := .prim T.rows.length) (o := 0) K hix hj e (dv := 1) (wv := 1) (ps := [.int 1, .int T.rows.length]) rfl rfl rfl
    (repeat' (first | fail "W" | fail "R"))
    refine mApp K.rows ?_
    (repeat' (first | fail "W" | fail "R"))
    refine rApp K.rows (by rw [List.length_map]; omega) ?_
    (repeat' (first | fail "W" | fail "R"))
    refine sIDt i1 hkey (by omega) ?_
    (repeat' (first | fail "W" | fail "R"))
    refine mApp p2 ?_
    (repeat' (first | fail "W" | fail "R"))
    refine rApp p2 (by rw [List.length_map, hT.ld]; omega) ?_
    (repeat' (first | fail "W" | fail "R"))
    refine mApp w3 ?_
    (repeat' (first | fail "W" | fail "R"))
    refine rApp w3 (by rw [List.length_map, hT.lw]; omega) ?_
    (repeat' (first | fail "W" | fail "R"))
    refine mApp o4 ?_
    (repeat' (first | fail "W" | fail "R"))
    refine rApp o4 (by rw [List.length_map, hT.lo]; omega) ?_
    (repeat' (first | fail "W" | fail "R"))
    refine kn _ _ ⟨T.add (.prim T.rows.length) 0, _, k5, hT.add hno (fun _ h => nomatch h) (show (1 : Int) ≤ 4096 by decide) (fun n e => by cases e; exact ⟨rfl, by omega⟩) ⟨trivial, Nat.zero_le _⟩, ?_, fun b o eb nb => s5 b o (hS b o eb nb) (fun q => nomatch (hf b q).symm.trans eb), (hl2.upd (by decide)).upd (by decide), rfl⟩
    show T.rows ++ [_] = _
    rw [List.range_succ, List.map_append]
    exact congrArg (· ++ _) hrows
  · rintro m H' ⟨T, l2, K, hT, hrows, hS, hl2, rfl⟩
    rw [rng_len (by omega)] at hrows
    (repeat' (first | fail "W" | fail "R"))
    exact ⟨rfl, _, T, K, hT, hrows, rfl, hS, hf⟩
end
end
section
open PySem PySem.W PySem.Calls PyProof.Rows
open scoped Classical

section
variable {C : Ctx} {p : Params} {mg mb : PySem.Str → Option Value} {H : AH}

theorem names_law (G : Good C mg mb) (ho : Our C p) (bits eight : Int) :
    CodeP C 1 (.ref 308) [.int bits, .int eight] H (fun q H' => ∃ c nm j, q = .val (.ref c) ∧ H c = none ∧ H' c = some (.idict (fun k => (nm k).map PV.str) j) ∧ NmOk nm ∧ Same [] H H') := by
  refine our_call G ho (ps := ["bits", "eight"]) rfl rfl rfl (by exact vk2 fun _ _ => rfl) rfl (by decide +kernel) fun sc hsc => ?_
  dsimp only [List.zip_cons_cons, List.zip_nil_left, List.zip_nil_right] at hsc ⊢
  (repeat' (first | fail "W" | fail "R"))
  refine iDicP (by repeat constructor) (by decide) fun c hc => ?_
  rw [pairs_nm]
  (repeat' (first | fail "W" | fail "R"))
  refine fRng1 ⟨by omega, by omega, .inl rfl⟩ ?_
  refine itR ⟨by omega, by omega, .inl rfl⟩ ?_
  refine loopI (I := fun i m H' => ∃ nm j, H' c = some (.idict (fun k => (nm k).map PV.str) j) ∧ j ≤ 3 + i ∧ NmOk nm ∧ Same [] H H' ∧ ∃ l2, Only l2 ["j"] ∧ m = L (("bits", .int bits) :: ("eight", .int eight) :: ("names", .val (.ref c)) :: l2))
    ⟨_, _, hset, by decide, nm_ok_of _ ?_, Same.fresh hc, [], Only.nil, rfl⟩ (fun _ _ _ _ _ => trivial) ?_ ?_
  · intro q hq
    simp only [List.mem_cons, List.not_mem_nil, or_false] at hq
    rcases hq with rfl | rfl | rfl <;> exact short (by decide +kernel)
  · rintro i q m H' K' hq ⟨nm, j, hN, hj, hok, hS, l2, hl2, rfl⟩ kn _
    obtain ⟨rfl, hi5⟩ := rng_get hq
    have hv : ∃ v : Int, ([.int 1, .int 2, .int 4, .int 8, .int 16] : List PV)[i]? = some (.int v) ∧ 0 < v ∧ v < 1000000 := lt5 (P := fun i => ∃ v : Int, ([.int 1, .int 2, .int 4, .int 8, .int 16] : List PV)[i]? = some (.int v) ∧ 0 < v ∧ v < 1000000) ⟨_, rfl, by decide, by decide⟩ ⟨_, rfl, by decide, by decide⟩ ⟨_, rfl, by decide, by decide⟩ ⟨_, rfl, by decide, by decide⟩ ⟨_, rfl, by decide, by decide⟩ i (Int.ofNat_lt.mp hi5)
    have hs : ∃ x : String, ([.str (Str.ofString "A"), .str (Str.ofString "B.C"), .str (Str.ofString ""), .str (Str.ofString "Dd"), .str (Str.ofString "T65")] : List PV)[i]? = some (.str (Str.ofString x)) ∧ x.length ≤ 10 := lt5 (P := fun i => ∃ x : String, ([.str (Str.ofString "A"), .str (Str.ofString "B.C"), .str (Str.ofString ""), .str (Str.ofString "Dd"), .str (Str.ofString "T65")] : List PV)[i]? = some (.str (Str.ofString x)) ∧ x.length ≤ 10) ⟨_, rfl, by decide +kernel⟩ ⟨_, rfl, by decide +kernel⟩ ⟨_, rfl, by decide +kernel⟩ ⟨_, rfl, by decide +kernel⟩ ⟨_, rfl, by decide +kernel⟩ i (Int.ofNat_lt.mp hi5)
    obtain ⟨v, hv1, hv2, hv3⟩ := hv
    obtain ⟨x, hx1, hx2⟩ := hs
    (repeat' (first | fail "W" | fail "R"))
    refine gT (by omega) (itemAt_nat hv1) ?_
    refine bDI ⟨hv2, hv3⟩ ?_
    (repeat' (first | fail "W" | fail "R"))
    refine bMI (by decide) ?_
    (repeat' (first | fail "W" | fail "R"))
    · refine gT (by omega) (itemAt_nat hx1) ?_
      (repeat' (first | fail "W" | fail "R"))
      refine sIDi hN (by omega) ?_
      (repeat' (first | fail "W" | fail "R"))
      exact kn _ _ ⟨_, _, by rw [hset, nm_set], by omega, nm_ok_set hok (short hx2), hS.setFresh hc _, _, hl2.upd (y := "j") (p := .int (i : Int)) (by decide), rfl⟩
    · exact kn _ _ ⟨nm, j, hN, by omega, hok, hS, _, hl2.upd (y := "j") (p := .int (i : Int)) (by decide), rfl⟩
  · rintro m H' ⟨nm, j, hN, hj, hok, hS, l2, hl2, rfl⟩
    rw [rng_len (by omega)] at hj
    have hj' : j ≤ 8 := hj
    (repeat' (first | fail "W" | fail "R"))
    all_goals first
      | (refine sIDi hN (by omega) ?_
         (repeat' (first | fail "W" | fail "R"))
         exact ⟨c, _, _, rfl, hc, by rw [hset, nm_set], nm_ok_set hok (short (by decide +kernel)), hS.setFresh hc _⟩)
      | exact ⟨c, nm, j, rfl, hc, hN, hok, hS⟩
end
end
section
open PySem PySem.W PySem.Calls PyProof.Rows
open scoped Classical

section
variable {C : Ctx} {p : Params} {mg mb : PySem.Str → Option Value} {H : AH} {T : Tab} {laid : List Int} {nodes : List Node} {ar an : Addr} {nm : Int → Option PySem.Str}

theorem words_law (G : Good C mg mb) (ho : Our C p) (hL : Laid T laid nodes) (hR : H ar = some (.list (nodes.map Node.pv))) {jn : Nat} (hN : H an = some (.idict (fun k => (nm k).map PV.str) jn)) (hn : NmOk nm) :
    CodeP C 2 (.ref 289) [.val (.ref ar), .val (.ref an)] H (fun q H' => ∃ (c : Addr) (cs : List Addr), q = .val (.ref c) ∧ H c = none ∧ H' c = some (.list (cs.map fun b => .val (.ref b))) ∧ cs.length = 9 ∧
      (∀ (l : Nat) b, cs[l]? = some b → H b = none ∧ H' b = some (.list (wordsL nm T laid l))) ∧ Same [] H H') := by
  have lens := hL.len
  have small := hL.small
  refine our_call G ho (ps := ["rows", "names"]) rfl rfl rfl (by exact vk2 fun _ _ => rfl) rfl (by decide +kernel) fun sc hsc => ?_
  dsimp only [List.zip_cons_cons, List.zip_nil_left, List.zip_nil_right] at hsc ⊢
  (repeat' (first | fail "W" | fail "R"))
  intro b0 hb0
  (repeat' (first | fail "W" | fail "R"))
  intro o ho0
  have hoH : H o = none := (Same.fresh hb0).out ho0 nil_out
  have hob : b0 ≠ o := ne_fresh hset ho0
  generalize hH0 : (AH.set H b0 (.list [])).set o (.list []) = H0
  have S0 : Same [] H H0 := by subst hH0; exact (Same.fresh hb0).setFresh hoH _
  have gb0 : H0 b0 = some (.list []) := by subst hH0; exact hset_ne hob hset
  have go0 : H0 o = some (.list []) := by subst hH0; exact hset
  (repeat' (first | fail "W" | fail "R"))
  refine fRng3 ⟨by omega, by omega, .inr rfl⟩ ?_
  refine itR ⟨by omega, by omega, .inr rfl⟩ ?_
  refine loopI (I := fun i m H' => ∃ (cs : List Addr) (bl : Addr) (l2 : List (String × PV)), Same [] H H' ∧ H' o = some (.list (cs.map fun b => .val (.ref b))) ∧ cs.length = i ∧
      (∀ (q : Nat) b, cs[q]? = some b → H b = none ∧ b ≠ o ∧ H' b = some (.list (wordsL nm T laid (8 - q)))) ∧ (0 < i → H' bl = some (.list (wordsL nm T laid (9 - i)))) ∧
      Only l2 ["level", "here", "tid", "parts", "word"] ∧
      m = L (("rows", .val (.ref ar)) :: ("names", .val (.ref an)) :: ("below", .val (.ref bl)) :: ("out", .val (.ref o)) :: l2))
    ⟨[], b0, [], S0, go0, rfl, fun q b e => (nomatch e), fun h => absurd h (by decide), Only.nil, rfl⟩ (fun _ _ _ _ _ => trivial) ?_ ?_
  · rintro i q m H' K' hq ⟨cs, bl, l2, hS, hO, hcs, hcw, hbl, hl2, rfl⟩ kn _
    obtain ⟨rfl, hi8⟩ := down_get hq
    obtain ⟨lev, hlev⟩ : ∃ lev : Nat, (lev : Int) = 8 - i := ⟨8 - i, by omega⟩
    rw [← hlev]
    (repeat' (first | fail "W" | fail "R"))
    intro h hh
    have hl3 := (hl2.upd (y := "level") (p := .int (lev : Int)) (by decide)).upd (y := "here") (p := .val (.ref h)) (by decide)
    have hlv : lkS (upd (upd l2 "level" (.int (lev : Int))) "here" (.val (.ref h))) "level" = some (.int (lev : Int)) := lkW (by decide) lkU
    have hhH : H h = none := hS.out hh nil_out
    have hoh : o ≠ h := ne_fresh hO hh
    have har : ar ≠ h := ne_fresh hR hhH
    have han : an ≠ h := ne_fresh hN hhH
    generalize hH1 : AH.set H' h (.list []) = H1
    have S1 : Same [] H H1 := by subst hH1; exact hS.setFresh hhH _
    have S1' : Same [] H' H1 := by subst hH1; exact Same.fresh hh
    have g1 : H1 h = some (.list []) := by subst hH1; exact hset
    (repeat' (first | fail "W" | fail "R"))
    refine itL (S1 _ _ hR (by first | exact nil_out | exact fun _ _ => nil_out | exact fun _ h => (nil_out h).elim | exact fun e => AObj.noConfusion e | exact mem_at 0 rfl | exact mem_at 1 rfl | exact mem_at 2 rfl | exact mem_at 3 rfl | exact mem_at 4 rfl | exact mem_at 5 rfl | exact mem_at 6 rfl | exact mem_at 7 rfl | exact mem_at 8 rfl | exact mem_at 9 rfl | simp)) ?_
    refine loopI (I := fun j m H'' => ∃ l4, Same [h] H1 H'' ∧ H'' h = some (.list ((wordsL nm T laid lev).take j)) ∧ (lkS l4 "level" = some (.int (lev : Int)) ∧ lkS l4 "here" = some (.val (.ref h)) ∧ Only l4 ["level", "here", "tid", "parts", "word"]) ∧
        m = L (("rows", .val (.ref ar)) :: ("names", .val (.ref an)) :: ("below", .val (.ref bl)) :: ("out", .val (.ref o)) :: l4))
      ⟨_, Same.refl _ _, g1, ⟨hlv, lkU, hl3⟩, rfl⟩ (fun j m H'' _ hI => by obtain ⟨_, s, _⟩ := hI; exact s _ _ (S1 _ _ hR nil_out) (out_sing har)) ?_ ?_
    · rintro j q m H'' K'' hq ⟨l4, s4, h4, ⟨hlv4, hh4, hl4⟩, rfl⟩ kn2 _
      rw [List.getElem?_map] at hq
      obtain ⟨x, hx, rfl⟩ := Option.map_eq_some_iff.mp hq
      have hjl : j < laid.length := by rw [lens]; exact (List.getElem?_eq_some_iff.mp hx).1
      have ht := node_text hL nm hx lev
      have hno := hL.node j x hx
      have htk := wordsL_take (nm := nm) (T := T) (lev := lev) hjl
      have hN2 := s4 _ _ (S1 _ _ hN (by first | exact nil_out | exact fun _ _ => nil_out | exact fun _ h => (nil_out h).elim | exact fun e => AObj.noConfusion e | exact mem_at 0 rfl | exact mem_at 1 rfl | exact mem_at 2 rfl | exact mem_at 3 rfl | exact mem_at 4 rfl | exact mem_at 5 rfl | exact mem_at 6 rfl | exact mem_at 7 rfl | exact mem_at 8 rfl | exact mem_at 9 rfl | simp)) (by simpa using han)
      have hwl : (wordsL nm T laid lev).length = laid.length := by simp [wordsL]
      have ltake : ((wordsL nm T laid lev).take j).length < 1000000 := by rw [List.length_take]; omega
      obtain ⟨tid, parts, word⟩ := x
      dsimp only at ht hno
      change awA C 1 _ (.tup [.int tid, iTp parts, .str word]) _ _ _ _
      refine aTup (nsCH hsc (by decide +kernel) (by fail "U") (nsCH hsc (by decide +kernel) (by fail "U") (nsCH hsc (by decide +kernel) (by fail "U") (ns0 ?_))))
      rcases hno with ⟨e1, e2, r, er, ei, eq⟩ | ⟨e1, y, ey, e2, er⟩ | ⟨e1, e2, e3, er⟩
      · dsimp only at e1 e2
        subst e1
        have ht' : TX nm T.rows (laid.getD j 0) lev = word := by rw [ht, if_neg (by decide), if_neg (by decide)]
        (repeat' (first | fail "W" | fail "R"))
        refine mApp h4 ?_
        (repeat' (first | fail "W" | fail "R"))
        refine rApp h4 ltake ?_
        (repeat' (first | fail "W" | fail "R"))
        exact kn2 _ _ ⟨_, s4.trans Same.set, by rw [hset, htk, ht'], ⟨by repeat' (first | assumption | apply lkU | (apply lkW; decide +kernel)), by repeat' (first | assumption | apply lkU | (apply lkW; decide +kernel)), by repeat' (first | assumption | refine Only.upd ?_ (by decide +kernel))⟩, rfl⟩
      · dsimp only at e1 e2
        subst e1 e2
        have ht' : TX nm T.rows (laid.getD j 0) lev = TX nm T.rows (laid.getD y 0) lev ++ S "[]" := by rw [ht, if_pos (by decide)]; rfl
        have hsm := TX_small hL.ok hn (k := laid.getD y 0) (hL.lt (by omega)).2 lev
        have l2 : (Str.ofString "[]").length = 2 := (S_len "[]").trans (by decide +kernel)
        (repeat' (first | fail "W" | fail "R"))
        refine gT (by decide) (itemAt_of (by decide) rfl) ?_
        refine gL h4 (by omega) (itemAt_nat (by rw [List.getElem?_take_of_lt ey, wordsL_get (by omega)])) ?_
        (repeat' (first | fail "W" | fail "R"))
        refine bAS (by rw [l2]; omega) ?_
        (repeat' (first | fail "W" | fail "R"))
        refine mApp h4 ?_
        (repeat' (first | fail "W" | fail "R"))
        refine rApp h4 ltake ?_
        (repeat' (first | fail "W" | fail "R"))
        exact kn2 _ _ ⟨_, s4.trans Same.set, by rw [hset, htk, ht'], ⟨by repeat' (first | assumption | apply lkU | (apply lkW; decide +kernel)), by repeat' (first | assumption | apply lkU | (apply lkW; decide +kernel)), by repeat' (first | assumption | refine Only.upd ?_ (by decide +kernel))⟩, rfl⟩
      · dsimp only at e1 e2 e3
        have htp := (tids_ok _ e1).1
        have ht' : TX nm T.rows (laid.getD j 0) lev = nameText nm tid ++ argsText (fun y l => TX nm T.rows (laid.getD y.toNat 0) l) parts lev := by rw [ht, if_neg (by omega), if_pos htp]
        have hb100 : tid < 100 := tids_lt _ e1
        have hnl := name_len hn e1
        (repeat' (first | fail "W" | fail "R"))
        refine cInD hN2 ?_
        (repeat' (first | fail "W" | fail "R"))
        refine spIJ (Z := ?Z) (fun q hq z => ?b1) (fun hq z => ?b2) ?b3
        case b1 =>
          (repeat' (first | fail "W" | fail "R"))
          refine gD hN2 hq ?_
          obtain ⟨xx, hxx, rfl⟩ := Option.map_eq_some_iff.mp hq
          rw [show xx = nameText nm tid by unfold nameText; rw [hxx]; rfl]
          exact z ()
        case b2 =>
          (repeat' (first | fail "W" | fail "R"))
          refine fStr (by omega) ?_
          refine bAS (tids_txt _ e1) ?_
          have hx0 : nm tid = none := by
            cases e : nm tid with
            | none => rfl
            | some x => rw [e] at hq; cases hq
          rw [show Str.ofString "T" ++ Str.ofString (toString tid) = nameText nm tid by unfold nameText; rw [hx0]; rfl]
          exact z ()
        rcases Nat.eq_zero_or_pos parts.length with hp | hp
        · have pn : parts = [] := List.eq_nil_of_length_eq_zero hp
          have ht2 : TX nm T.rows (laid.getD j 0) lev = nameText nm tid := by rw [ht']; unfold argsText; rw [if_pos pn]; exact str_app_nil _
          (repeat' (first | fail "W" | fail "R"))
          refine fLenT (by rw [List.length_map]; omega) ?_
          rw [List.length_map]
          (repeat' (first | fail "W" | fail "R"))
          refine fLenT (by rw [List.length_map]; omega) ?_
          rw [List.length_map]
          (repeat' (first | fail "W" | fail "R"))
          refine mApp h4 ?_
          (repeat' (first | fail "W" | fail "R"))
          refine rApp h4 ltake ?_
          (repeat' (first | fail "W" | fail "R"))
          exact kn2 _ _ ⟨_, s4.trans Same.set, by rw [hset, htk, ht2], ⟨by repeat' (first | assumption | apply lkU | (apply lkW; decide +kernel)), by repeat' (first | assumption | apply lkU | (apply lkW; decide +kernel)), by repeat' (first | assumption | refine Only.upd ?_ (by decide +kernel))⟩, rfl⟩
        · have pn : parts ≠ [] := by rintro rfl; simp at hp
          by_cases h8 : lev = 8
          · have ht2 : TX nm T.rows (laid.getD j 0) lev = nameText nm tid ++ S "<..>" := by rw [ht']; unfold argsText; rw [if_neg pn, if_pos (by omega)]
            (repeat' (first | fail "W" | fail "R"))
            refine fLenT (by rw [List.length_map]; omega) ?_
            rw [List.length_map]
            (repeat' (first | fail "W" | fail "R"))
            refine bAS (by rw [show (Str.ofString "<..>").length = 4 from (S_len "<..>").trans (by decide +kernel)]; omega) ?_
            (repeat' (first | fail "W" | fail "R"))
            refine mApp h4 ?_
            (repeat' (first | fail "W" | fail "R"))
            refine rApp h4 ltake ?_
            (repeat' (first | fail "W" | fail "R"))
            exact kn2 _ _ ⟨_, s4.trans Same.set, by rw [hset, htk, ht2], ⟨by repeat' (first | assumption | apply lkU | (apply lkW; decide +kernel)), by repeat' (first | assumption | apply lkU | (apply lkW; decide +kernel)), by repeat' (first | assumption | refine Only.upd ?_ (by decide +kernel))⟩, rfl⟩
          · have hblj := hbl (by omega)
            rw [show 9 - i = lev + 1 by omega] at hblj
            have hbl4 := s4 _ _ (S1' _ _ hblj (by first | exact nil_out | exact fun _ _ => nil_out | exact fun _ h => (nil_out h).elim | exact fun e => AObj.noConfusion e | exact mem_at 0 rfl | exact mem_at 1 rfl | exact mem_at 2 rfl | exact mem_at 3 rfl | exact mem_at 4 rfl | exact mem_at 5 rfl | exact mem_at 6 rfl | exact mem_at 7 rfl | exact mem_at 8 rfl | exact mem_at 9 rfl | simp)) (by simpa using ne_fresh hblj hh)
            (repeat' (first | fail "W" | fail "R"))
            refine fLenT (by rw [List.length_map]; omega) ?_
            rw [List.length_map]
            (repeat' (first | fail "W" | fail "R"))
            refine fLenT (by rw [List.length_map]; omega) ?_
            rw [List.length_map]
            (repeat' (first | fail "W" | fail "R"))
            have k1 : (Str.ofString "<").length = 1 := (S_len "<").trans (by decide +kernel)
            have k2 : (Str.ofString ">").length = 1 := (S_len ">").trans (by decide +kernel)
            have k3 : (Str.ofString ", ").length = 2 := (S_len ", ").trans (by decide +kernel)
            refine bAS (by rw [k1]; omega) ?_
            (repeat' (first | fail "W" | fail "R"))
            refine mJoin ?_
            (repeat' (first | fail "W" | fail "R"))
            refine itT ?_
            refine ⟨by rw [List.length_map]; omega, ?_⟩
            refine compM (f := fun p => match p with | .int y => .str (TX nm T.rows (laid.getD y.toNat 0) (lev + 1)) | _ => .none) trivial ?_ ?_
            · rintro pv K3 hpv kk
              obtain ⟨y, hy, rfl⟩ := List.mem_map.mp hpv
              have hy2 := e2 y hy
              (repeat (first | rw [freeL_neg (by decide +kernel)] | rw [freeL_pos (by decide +kernel)]))
              first | rw [freeL_nil] | skip
              (repeat' (first | fail "W" | fail "R"))
              refine gL hbl4 (by omega) (itemAt_of hy2.1 (wordsL_get (by omega))) ?_
              exact kk
            · intro c hc
              have hcc : h ≠ c := ne_fresh h4 hc
              have hc1 : H1 c = none := s4.out hc (out_sing (Ne.symm hcc))
              have hj : ∀ z ∈ (parts.map fun y => TX nm T.rows (laid.getD y.toNat 0) (lev + 1)), z.length ≤ 98304 := fun z hz => by
                obtain ⟨y, hy, rfl⟩ := List.mem_map.mp hz
                exact TX_small hL.ok hn (hL.lt (by have := e2 y hy; omega)).2 _
              have hjl := sum_small hj
              have hjj := join_len (Str.ofString ", ") (parts.map fun y => TX nm T.rows (laid.getD y.toNat 0) (lev + 1))
              rw [k3] at hjj
              simp only [List.length_map] at hjl hjj
              (repeat' (first | fail "W" | fail "R"))
              refine rJoin (ys := parts.map fun y => TX nm T.rows (laid.getD y.toNat 0) (lev + 1)) hset (by rw [List.map_map, List.map_map]; rfl) (by rw [k3]; simp only [List.length_map]; omega) ?_
              refine bAS (by rw [app_len, k1]; omega) ?_
              (repeat' (first | fail "W" | fail "R"))
              refine bAS (by rw [app_len, app_len, k1, k2]; omega) ?_
              (repeat' (first | fail "W" | fail "R"))
              have h4c := hset_ne (o := .list (List.map (fun p => match p with | PV.int y => PV.str (TX nm T.rows (laid.getD y.toNat 0) (lev + 1)) | _ => PV.none) (parts.map PV.int))) hcc h4
              refine mApp h4c ?_
              (repeat' (first | fail "W" | fail "R"))
              refine rApp h4c ltake ?_
              (repeat' (first | fail "W" | fail "R"))
              have ht2 : TX nm T.rows (laid.getD j 0) lev = nameText nm tid ++ Str.ofString "<" ++ Txt.join (Str.ofString ", ") (parts.map fun y => TX nm T.rows (laid.getD y.toNat 0) (lev + 1)) ++ Str.ofString ">" := by
                rw [ht']; unfold argsText; rw [if_neg pn, if_neg (by omega)]; simp only [PySem.Str.append_assoc]
              exact kn2 _ _ ⟨_, (s4.setFresh hc1 _).trans Same.set, by rw [hset, htk, ht2], ⟨by repeat' (first | assumption | apply lkU | (apply lkW; decide +kernel)), by repeat' (first | assumption | apply lkU | (apply lkW; decide +kernel)), by repeat' (first | assumption | refine Only.upd ?_ (by decide +kernel))⟩, rfl⟩
    · rintro m H'' ⟨l4, s4, h4, ⟨hlv4, hh4, hl4⟩, rfl⟩
      rw [List.length_map, ← lens, List.take_of_length_le (by simp [wordsL])] at h4
      have o4 := s4 _ _ (S1' _ _ hO (by first | exact nil_out | exact fun _ _ => nil_out | exact fun _ h => (nil_out h).elim | exact fun e => AObj.noConfusion e | exact mem_at 0 rfl | exact mem_at 1 rfl | exact mem_at 2 rfl | exact mem_at 3 rfl | exact mem_at 4 rfl | exact mem_at 5 rfl | exact mem_at 6 rfl | exact mem_at 7 rfl | exact mem_at 8 rfl | exact mem_at 9 rfl | simp)) (by simpa using hoh)
      (repeat' (first | fail "W" | fail "R"))
      refine mApp o4 ?_
      (repeat' (first | fail "W" | fail "R"))
      refine rApp o4 (by simp; omega) ?_
      (repeat' (first | fail "W" | fail "R"))
      refine kn _ _ ⟨cs ++ [h], h, _, ?_, by rw [hset]; simp, by simp [hcs], ?_, fun _ => ?_, ?_, rfl⟩
      · exact fun b ob e n => hset_ne (ne_fresh e hoH) (s4 _ _ (S1 _ _ e n) (by simpa using ne_fresh e hhH))
      · intro q b hb
        rcases Nat.lt_or_ge q cs.length with hq | hq
        · rw [List.getElem?_append_left hq] at hb
          obtain ⟨z1, z2, z3⟩ := hcw q b hb
          exact ⟨z1, z2, hset_ne z2 (s4 _ _ (S1' _ _ z3 (by first | exact nil_out | exact fun _ _ => nil_out | exact fun _ h => (nil_out h).elim | exact fun e => AObj.noConfusion e | exact mem_at 0 rfl | exact mem_at 1 rfl | exact mem_at 2 rfl | exact mem_at 3 rfl | exact mem_at 4 rfl | exact mem_at 5 rfl | exact mem_at 6 rfl | exact mem_at 7 rfl | exact mem_at 8 rfl | exact mem_at 9 rfl | simp)) (by simpa using ne_fresh z3 hh))⟩
        · rw [List.getElem?_append_right hq] at hb
          have h0 : q = cs.length := by
            rcases Nat.lt_or_ge cs.length q with z | z
            · rw [List.getElem?_eq_none (by simp; omega)] at hb; cases hb
            · omega
          subst h0
          simp at hb
          subst hb
          exact ⟨hhH, Ne.symm hoh, hset_ne (Ne.symm hoh) (by rw [h4, show lev = 8 - cs.length by omega])⟩
      · exact hset_ne (Ne.symm hoh) (by rw [h4, show lev = 9 - (i + 1) by omega])
      · exact hl4
  · rintro m H' ⟨cs, bl, l2, hS, hO, hcs, hcw, hbl, hl2, rfl⟩
    rw [down_len] at hcs
    (repeat' (first | fail "W" | fail "R"))
    refine lRev hO (by simp; omega) fun c hc => ?_
    (repeat' (first | fail "W" | fail "R"))
    have hcH : H c = none := hS.out hc nil_out
    refine ⟨c, cs.reverse, rfl, hcH, by rw [hset, List.map_reverse], by simp [hcs], fun l b hb => ?_, hS.setFresh hcH _⟩
    have hl9 : l < 9 := by have := (List.getElem?_eq_some_iff.mp hb).1; simpa [hcs] using this
    rw [List.getElem?_reverse (by omega)] at hb
    obtain ⟨z1, z2, z3⟩ := hcw _ b hb
    refine ⟨z1, hset_ne (ne_fresh z3 hc) ?_⟩
    rw [z3, show 8 - (cs.length - 1 - l) = l by omega]
end
end
section
open PySem PySem.W PySem.Calls PyProof.Rows
open scoped Classical

theorem CodeP.weaken {C : Ctx} {n : Nat} {f : Value} {args : List PV} {H : AH} {Q Q' : PV → AH → Prop} (h : CodeP C n f args H Q) (k : ∀ p H', Q p H' → Q' p H') : CodeP C n f args H Q' :=
  fun A s vs R S r => codeAny_mono (h A s vs R S r) fun r s' hr => by
    rcases r with e | (v | _ | _ | _) <;> first | exact hr.elim | skip
    obtain ⟨p, H', a, b, c, d⟩ := hr
    exact ⟨p, H', a, b, c, k _ _ d⟩

section
variable {C : Ctx} {p : Params} {mg mb : PySem.Str → Option Value} {H : AH}
theorem new_table (G : Good C mg mb) (ho : Our C p) : CallP C 2 (.ref 79) [] H (fun q H' => ∃ a A T, q = .val (.ref a) ∧ KT C H' a A T ∧ T.Ok ∧ T.rows = (List.range 16).map (fun (i : Nat) => Row.prim i) ∧ Same [] H H' ∧
    ∀ b ∈ [a, A.d, A.r, A.i, A.p, A.w, A.o], H b = none) := by
  have hm : C.meth "__init__" = some 62 := by rw [ho.meth]; unfold ourMeth; simp [str_eq]
  have := callP_make (n := 1) (H := H) (Q := fun q H' => ∃ a A T, q = .val (.ref a) ∧ KT C H' a A T ∧ T.Ok ∧ T.rows = (List.range 16).map (fun (i : Nat) => Row.prim i) ∧ Same [] H H' ∧
    ∀ b ∈ [a, A.d, A.r, A.i, A.p, A.w, A.o], H b = none) G hm fun d x hd hx hdx => by
      refine (init_sound (H := (H.set d (.ns (fun _ => none) 0)).set x (.inst C.KT d)) G ho hset (hset_ne hdx hset)).weaken ?_
      rintro q H' ⟨rfl, A, T, K, hT, hr, rfl, hS, hf⟩
      have keep : ∀ b o, H b = some o → ((H.set A.d (.ns (fun _ => none) 0)).set x (.inst C.KT A.d)) b = some o := fun b o e => hset_ne (ne_fresh e hx) (hset_ne (ne_fresh e hd) e)
      refine ⟨rfl, x, A, T, rfl, K, hT, hr, fun b o e _ => hS b o (keep b o e) (out_sing (ne_fresh e hd)), ?_⟩
      have out : ∀ b, ((H.set A.d (.ns (fun _ => none) 0)).set x (.inst C.KT A.d)) b = none → H b = none := fun b e => by
        cases q : H b with
        | none => rfl
        | some o => rw [keep b o q] at e; cases e
      exact al_cons hx (al_cons hd fun b hb => out _ (hf _ hb))
  rw [ho.kt] at this
  exact this
end
end
section
open PySem PySem.W PySem.Calls PyProof.Rows
open scoped Classical

structure LeafF (C : Ctx) (H : AH) (a : Addr) (A : KA) (T : Tab) (al ar : Addr) (laid : List Int) (nodes : List Node) (T' : Tab) (k : Int) (x : Node) (H' : AH) : Prop where
  h : LS C H' a A T' al ar (laid ++ [k]) (nodes ++ [x])
  ex : Ext T T'
  w : wts T' k = 1
  d : dps T' k ≤ 1
  S : Same [A.r, A.i, A.p, A.w, A.o, al, ar] H H'
noncomputable def LeafP (C : Ctx) (H : AH) (a : Addr) (A : KA) (T : Tab) (al ar : Addr) (laid : List Int) (nodes : List Node) : PV → AH → Prop := fun q H' => q = .int laid.length ∧ ∃ T' k x, LeafF C H a A T al ar laid nodes T' k x H'

theorem LeafP.el {C : Ctx} {H : AH} {a : Addr} {A : KA} {T : Tab} {al ar : Addr} {laid : List Int} {nodes : List Node} {Q : PV → AH → Prop} (h : ∀ T' k x H', LS C H' a A T' al ar (laid ++ [k]) (nodes ++ [x]) → Ext T T' → wts T' k = 1 → dps T' k ≤ 1 → Same [A.r, A.i, A.p, A.w, A.o, al, ar] H H' → Q (.int laid.length) H') :
    ∀ p H', LeafP C H a A T al ar laid nodes p H' → Q p H' := by rintro _ H' ⟨rfl, T', k, x, h1, h2, h3, h4, h5⟩; exact h T' k x H' h1 h2 h3 h4 h5
section
variable {C : Ctx} {p : Params} {mg mb : PySem.Str → Option Value} {H : AH} {a : Addr} {A : KA} {T : Tab} {al ar : Addr} {laid : List Int} {nodes : List Node}

theorem leaf_law (G : Good C mg mb) (ho : Our C p) (h : LS C H a A T al ar laid nodes) (hl : laid.length + 1 ≤ 100) {n : Int} (hn : 0 ≤ n ∧ n < 100000) :
    CodeP C 11 (.ref 279) [.val (.ref a), .val (.ref al), .val (.ref ar), .int n] H (LeafP C H a A T al ar laid nodes) := by
  have K := h.K
  have hal : al ∉ [A.r, A.i, A.p, A.w, A.o] := fun q => by
    exact (h.ne _ (sub_at [2, 3, 4, 5, 6] rfl _ q)).1 rfl
  have har : ar ∉ [A.r, A.i, A.p, A.w, A.o] := fun q => by
    exact (h.ne _ (sub_at [2, 3, 4, 5, 6] rfl _ q)).2 rfl
  have hsm := h.L.small
  have hln := h.L.len
  have hrl := h.rl
  have m5 : ∀ {H' : AH}, Same [A.r, A.i, A.p, A.w, A.o] H H' → ∀ o o', Same [A.r, A.i, A.p, A.w, A.o, al, ar] H ((H'.set al o).set ar o') := fun s o o' =>
    ((s.mono (sub_at [0, 1, 2, 3, 4] rfl)).trans (Same.set.mono (sub_at [5] rfl))).trans (Same.set.mono (sub_at [6] rfl))
  refine our_call G ho (ps := ["kt", "laid", "rows", "n"]) rfl rfl rfl (by exact vk4 fun _ _ _ _ => rfl) rfl (by decide +kernel) fun sc hsc => ?_
  dsimp only [List.zip_cons_cons, List.zip_nil_left, List.zip_nil_right] at hsc ⊢
  (repeat' (first | fail "W" | fail "R"))
  refine bMI (by decide) ?_
  (repeat' (first | fail "W" | fail "R"))
  refine bDI (by decide) ?_
  (repeat' (first | fail "W" | fail "R"))
  · refine bMI (by decide) ?_
    refine Mine.ex4 (pick14 (i := n / 5 % 14) (by omega)) fun k hk k16 k0 k14 => ?_
    refine gT (by omega) (itemAt_of (by omega) hk) ?_
    (repeat' (first | fail "W" | fail "R"))
    refine mApp h.hl ?_
    (repeat' (first | fail "W" | fail "R"))
    refine rApp h.hl (by simp; omega) ?_
    (repeat' (first | fail "W" | fail "R"))
    have e1 := hset_ne (o := .list (laid.map .int ++ [.int (k : Int)])) (Ne.symm h.na) h.hr
    refine mApp e1 ?_
    (repeat' (first | fail "W" | fail "R"))
    refine gT (by omega) (itemAt_nat (primW_get k16)) ?_
    (repeat' (first | fail "W" | fail "R"))
    refine rApp e1 (by simp; omega) ?_
    (repeat' (first | fail "W" | fail "R"))
    refine fLenL (hset_ne h.na hset) (by simp; omega) ?_
    (repeat' (first | fail "W" | fail "R"))
    have w1 := wts_at h.L.ok (h.pb k k16)
    have hst : Stands T (k : Int) := ⟨by omega, by omega, Int.natCast_nonneg k, _, by rw [Int.toNat_natCast]; exact h.pb k k16, .inl (by simp [Row.sort])⟩
    have hno : NodeOk T (laid ++ [(k : Int)]) laid.length ⟨0, [], primText k⟩ := .inl ⟨rfl, rfl, .prim k, by rw [getD_last, Int.toNat_natCast]; exact h.pb k k16, rfl, fun _ _ _ => rfl⟩
    have hg := h.grow K h.L.ok (Ext.refl T) (Nat.le_add_right _ 2) hst hno hl h.hr
    exact ⟨by simp, T, k, _, hg, Ext.refl T, w1.1, by rw [w1.2]; simp [depOf, Row.inner], m5 (Same.refl _ _) _ _⟩
  · refine mApp h.hl ?_
    (repeat' (first | fail "W" | fail "R"))
    refine bMI (by decide) ?_
    (repeat' (first | fail "W" | fail "R"))
    have hi : n / 5 % 3 ∈ places := md_places _
    refine cUse (var_kind G ho (k := n / 5 % 3) ⟨K, h.L.ok, hi, by omega, by simp [depOf, Row.inner], by simp [weiOf, Row.inner]⟩) (by omega) (PutP.el fun k T' H1 K1 ok1 ex1 hr1 hlen1 S1 => ?_)
    (repeat' (first | fail "W" | fail "R"))
    have g1 := S1 _ _ h.hl hal
    have g2 := S1 _ _ h.hr har
    refine rApp g1 (by simp; omega) ?_
    (repeat' (first | fail "W" | fail "R"))
    have e1 := hset_ne (o := .list (laid.map .int ++ [.int (k : Int)])) (Ne.symm h.na) g2
    refine mApp e1 ?_
    (repeat' (first | fail "W" | fail "R"))
    refine bMI (by decide) ?_
    (repeat' (first | fail "W" | fail "R"))
    refine fStr (by omega) ?_
    have hb := num_len (m := n / 5 % 3) (.inr hi)
    unfold S at hb
    refine bAS (by rw [show (Str.ofString "!").length = 1 from (S_len "!").trans (by decide +kernel)]; omega) ?_
    (repeat' (first | fail "W" | fail "R"))
    refine rApp e1 (by simp; omega) ?_
    (repeat' (first | fail "W" | fail "R"))
    refine fLenL (hset_ne h.na hset) (by simp; omega) ?_
    (repeat' (first | fail "W" | fail "R"))
    have w1 := wts_at ok1 hr1
    have hst := stands_new (fun q hq => prefix_get ex1.rows (h.pb q hq)) hr1 (fun _ e => nomatch e) (by simp [Row.sort])
    have hno : NodeOk T' (laid ++ [(k : Int)]) laid.length ⟨0, [], Str.ofString "!" ++ Str.ofString (toString (n / 5 % 3))⟩ := .inl ⟨rfl, rfl, .var (n / 5 % 3), by rw [getD_last, Int.toNat_natCast]; exact hr1, rfl, fun _ _ _ => rfl⟩
    have hg := h.grow K1 ok1 ex1 (by omega) hst hno hl g2
    exact ⟨by simp, T', k, _, hg, ex1, by rw [w1.1]; simp [weiOf, Row.inner], by rw [w1.2]; simp [depOf, Row.inner], m5 S1 _ _⟩
  · refine mApp h.hl ?_
    (repeat' (first | fail "W" | fail "R"))
    refine bMI (by decide) ?_
    (repeat' (first | fail "W" | fail "R"))
    have hi : n / 5 % 3 ∈ places := md_places _
    refine cUse (mvar_kind G ho (k := n / 5 % 3) ⟨K, h.L.ok, hi, by omega, by simp [depOf, Row.inner], by simp [weiOf, Row.inner]⟩) (by omega) (PutP.el fun k T' H1 K1 ok1 ex1 hr1 hlen1 S1 => ?_)
    (repeat' (first | fail "W" | fail "R"))
    have g1 := S1 _ _ h.hl hal
    have g2 := S1 _ _ h.hr har
    refine rApp g1 (by simp; omega) ?_
    (repeat' (first | fail "W" | fail "R"))
    have e1 := hset_ne (o := .list (laid.map .int ++ [.int (k : Int)])) (Ne.symm h.na) g2
    refine mApp e1 ?_
    (repeat' (first | fail "W" | fail "R"))
    refine bMI (by decide) ?_
    (repeat' (first | fail "W" | fail "R"))
    refine fStr (by omega) ?_
    have hb := num_len (m := n / 5 % 3) (.inr hi)
    unfold S at hb
    refine bAS (by rw [show (Str.ofString "!!").length = 2 from (S_len "!!").trans (by decide +kernel)]; omega) ?_
    (repeat' (first | fail "W" | fail "R"))
    refine rApp e1 (by simp; omega) ?_
    (repeat' (first | fail "W" | fail "R"))
    refine fLenL (hset_ne h.na hset) (by simp; omega) ?_
    (repeat' (first | fail "W" | fail "R"))
    have w1 := wts_at ok1 hr1
    have hst := stands_new (fun q hq => prefix_get ex1.rows (h.pb q hq)) hr1 (fun _ e => nomatch e) (by simp [Row.sort])
    have hno : NodeOk T' (laid ++ [(k : Int)]) laid.length ⟨0, [], Str.ofString "!!" ++ Str.ofString (toString (n / 5 % 3))⟩ := .inl ⟨rfl, rfl, .mvar (n / 5 % 3), by rw [getD_last, Int.toNat_natCast]; exact hr1, rfl, fun _ _ _ => rfl⟩
    have hg := h.grow K1 ok1 ex1 (by omega) hst hno hl g2
    exact ⟨by simp, T', k, _, hg, ex1, by rw [w1.1]; simp [weiOf, Row.inner], by rw [w1.2]; simp [depOf, Row.inner], m5 S1 _ _⟩
  · refine mApp h.hl ?_
    (repeat' (first | fail "W" | fail "R"))
    refine bMI (by decide) ?_
    (repeat' (first | fail "W" | fail "R"))
    have hi : 64 + n / 5 % 5 ∈ tids := md_tids _
    refine cUse (class_kind G ho (t := 64 + n / 5 % 5) (as := []) ⟨K, h.L.ok, ⟨hi, (fun _ q => nomatch q), by decide⟩, by omega, by simp [depOf, Row.inner], by simp [weiOf, Row.inner]⟩) (by omega) (PutP.el fun k T' H1 K1 ok1 ex1 hr1 hlen1 S1 => ?_)
    (repeat' (first | fail "W" | fail "R"))
    have g1 := S1 _ _ h.hl hal
    have g2 := S1 _ _ h.hr har
    refine rApp g1 (by simp; omega) ?_
    (repeat' (first | fail "W" | fail "R"))
    have e1 := hset_ne (o := .list (laid.map .int ++ [.int (k : Int)])) (Ne.symm h.na) g2
    refine mApp e1 ?_
    (repeat' (first | fail "W" | fail "R"))
    refine bMI (by decide) ?_
    (repeat' (first | fail "W" | fail "R"))
    refine rApp e1 (by simp; omega) ?_
    (repeat' (first | fail "W" | fail "R"))
    refine fLenL (hset_ne h.na hset) (by simp; omega) ?_
    (repeat' (first | fail "W" | fail "R"))
    have w1 := wts_at ok1 hr1
    have hst := stands_new (fun q hq => prefix_get ex1.rows (h.pb q hq)) hr1 (fun _ e => nomatch e) (by simp [Row.sort])
    have hno : NodeOk T' (laid ++ [(k : Int)]) laid.length ⟨64 + n / 5 % 5, [], Str.ofString ""⟩ := .inr (.inr ⟨hi, (fun _ q => nomatch q), by simp, .inl (by rw [getD_last, Int.toNat_natCast]; exact hr1)⟩)
    have hg := h.grow K1 ok1 ex1 (by omega) hst hno hl g2
    exact ⟨by simp, T', k, _, hg, ex1, by rw [w1.1]; simp [weiOf, Row.inner], by rw [w1.2]; simp [depOf, Row.inner], m5 S1 _ _⟩
end
end
section
open PySem PySem.W PySem.Calls PyProof.Rows
open scoped Classical

structure StepF (C : Ctx) (H : AH) (a : Addr) (A : KA) (al ar as : Addr) (T : Tab) (spine : List Nat) (T' : Tab) (laid' : List Int) (nodes' : List Node) (s : Nat) (H' : AH) : Prop where
  h : LS C H' a A T' al ar laid' nodes'
  hs : H' as = some (.list ((spine ++ [s]).map fun (q : Nat) => .int (q : Int)))
  sp : SP T' laid' (spine ++ [s])
  ex : Ext T T'
  S : Same [A.r, A.i, A.p, A.w, A.o, al, ar, as] H H'
noncomputable def StepP (C : Ctx) (H : AH) (a : Addr) (A : KA) (al ar as : Addr) (T : Tab) (spine : List Nat) : PV → AH → Prop := fun q H' => q = .none ∧ ∃ T' laid' nodes' s, StepF C H a A al ar as T spine T' laid' nodes' s H'

theorem StepP.el {C : Ctx} {H : AH} {a : Addr} {A : KA} {al ar as : Addr} {T : Tab} {spine : List Nat} {Q : PV → AH → Prop} (h : ∀ T' laid' nodes' s H', LS C H' a A T' al ar laid' nodes' → H' as = some (.list ((spine ++ [s]).map fun (q : Nat) => .int (q : Int))) → SP T' laid' (spine ++ [s]) → Ext T T' → Same [A.r, A.i, A.p, A.w, A.o, al, ar, as] H H' → Q .none H') :
    ∀ p H', StepP C H a A al ar as T spine p H' → Q p H' := by rintro _ H' ⟨rfl, T', l', n', s, h1, h2, h3, h4, h5⟩; exact h T' l' n' s H' h1 h2 h3 h4 h5
section
variable {C : Ctx} {p : Params} {mg mb : PySem.Str → Option Value} {H : AH} {a : Addr} {A : KA} {T : Tab} {al ar as : Addr} {laid : List Int} {nodes : List Node} {spine : List Nat}

theorem step_law (G : Good C mg mb) (ho : Our C p) (h : LS C H a A T al ar laid nodes) (hsp : H as = some (.list (spine.map fun (q : Nat) => .int (q : Int)))) (has : as ∉ [a, A.d, A.r, A.i, A.p, A.w, A.o, al, ar]) (hs : SP T laid spine) (h14 : spine.length ≤ 14) {n : Int} (hn : 0 ≤ n ∧ n < 100000) :
    CodeP C 12 (.ref 284) [.val (.ref a), .val (.ref al), .val (.ref ar), .val (.ref as), .int n] H (StepP C H a A al ar as T spine) := by
  have two := hs.two
  have slen := hs.len
  obtain ⟨x, hx⟩ : ∃ x, spine[spine.length - 1]? = some x := ⟨_, List.getElem?_eq_getElem (by omega)⟩
  obtain ⟨y, hy⟩ : ∃ y, spine[spine.length - 2]? = some y := ⟨_, List.getElem?_eq_getElem (by omega)⟩
  obtain ⟨zi, hzi⟩ : ∃ zi : Nat, (zi : Int) = n / 8 % ((((spine.map fun (q : Nat) => PV.int (q : Int)).length : Int) + 1) / 2) := ⟨(n / 8 % ((((spine.map fun (q : Nat) => PV.int (q : Int)).length : Int) + 1) / 2)).toNat, by
    rw [List.length_map]
    exact Int.toNat_of_nonneg (Int.emod_nonneg _ (by omega))⟩
  have hz2 : zi ≤ spine.length - 2 := by
    have := Int.emod_lt_of_pos (n / 8) (b := (((spine.map fun (q : Nat) => PV.int (q : Int)).length : Int) + 1) / 2) (by rw [List.length_map]; omega)
    rw [← hzi, List.length_map] at this
    omega
  obtain ⟨z, hz⟩ : ∃ z, spine[zi]? = some z := ⟨_, List.getElem?_eq_getElem (by omega)⟩
  have ax := (hs.arg hx).mono (Int.le_refl _) (D' := spine.length) (by omega)
  have ay := (hs.arg hy).mono (Int.le_refl _) (D' := spine.length) (by omega)
  have az := (hs.arg hz).mono (wb_mono hz2) (D' := spine.length) (by omega)
  have hne : ∀ b ∈ [a, A.d, A.r, A.i, A.p, A.w, A.o, al, ar], b ≠ as := fun b hb e => has (e ▸ hb)
  have hwl : wb spine.length = 2 + wb (spine.length - 1) + wb (spine.length - 2) := by
    obtain ⟨l, hl⟩ : ∃ l, spine.length = l + 2 := ⟨spine.length - 2, by omega⟩
    rw [hl]; rfl
  have hw14 := wb_mono h14
  rw [wb14] at hw14
  have K := h.K
  refine our_call G ho (ps := ["kt", "laid", "rows", "spine", "n"]) rfl rfl rfl (by exact vk5 fun _ _ _ _ _ => rfl) rfl (by decide +kernel) fun sc hsc => ?_
  dsimp only [List.zip_cons_cons, List.zip_nil_left, List.zip_nil_right] at hsc ⊢
  (repeat' (first | fail "W" | fail "R"))
  refine gL hsp (by omega) (itemAt_m1 (i := spine.length - 1) (by rw [List.length_map]; omega) (natL_get hx)) ?_
  (repeat' (first | fail "W" | fail "R"))
  refine gL hsp (by omega) (itemAt_m2 (i := spine.length - 2) (by rw [List.length_map]; omega) (natL_get hy)) ?_
  (repeat' (first | fail "W" | fail "R"))
  refine bDI (by decide) ?_
  (repeat' (first | fail "W" | fail "R"))
  refine fLenL hsp (by rw [List.length_map]; omega) ?_
  (repeat' (first | fail "W" | fail "R"))
  refine bDI (by decide) ?_
  refine bMI (by rw [List.length_map]; omega) ?_
  rw [← hzi]
  refine gL hsp (by omega) (itemAt_nat (natL_get hz)) ?_
  clear hzi hz2 hx hy hz
  (repeat' (first | fail "W" | fail "R"))
  refine bMI (by decide) ?_
  (repeat' (first | fail "W"))
  have hs8 : 0 ≤ n % 8 ∧ n % 8 < 8 := by omega
  refine sIfJ (J := fun m' H' => ∃ T1 laid1 nodes1 lf, LS C H' a A T1 al ar laid1 nodes1 ∧ Ext T T1 ∧ Same [A.r, A.i, A.p, A.w, A.o, al, ar] H H' ∧ (∃ lfs : List Int, laid1 = laid ++ lfs ∧ lfs.length ≤ 1 ∧ ∀ k ∈ lfs, wts T1 k ≤ 1 ∧ dps T1 k ≤ 1) ∧
      (n % 8 = 5 ∨ n % 8 = 6 → Arg T1 laid1 lf 1 1) ∧
      m' = L [("kt", .val (.ref a)), ("laid", .val (.ref al)), ("rows", .val (.ref ar)), ("spine", .val (.ref as)), ("n", .int n), ("x", .int x), ("y", .int y), ("z", .int z), ("sort", .int (n % 8)), ("leaf_at", .int lf)]) (fun KK kn _ => ?_) ?_
  · have leaf : CodeP C 11 (.ref 279) [.val (.ref a), .val (.ref al), .val (.ref ar), .int (n / 40)] H (LeafP C H a A T al ar laid nodes) := leaf_law G ho h (by omega) (by omega)
    have done : ∀ (q : PV) (H1 : AH), LeafP C H a A T al ar laid nodes q H1 → KK .next (L [("kt", .val (.ref a)), ("laid", .val (.ref al)), ("rows", .val (.ref ar)), ("spine", .val (.ref as)), ("n", .int n), ("x", .int x), ("y", .int y), ("z", .int z), ("sort", .int (n % 8)), ("leaf_at", q)]) H1 := by
      rintro q H1 ⟨rfl, T1, k, nx, h1, ex1, w1, d1, S1⟩
      refine kn _ _ ⟨T1, _, _, _, h1, ex1, S1, ⟨[k], rfl, by simp, fun q hq => ?_⟩, fun _ => ⟨by omega, by simp; omega, ?_, ?_⟩, rfl⟩
      · simp only [List.mem_singleton] at hq; subst hq; exact ⟨by omega, d1⟩
      · rw [Int.toNat_natCast, getD_last]; omega
      · rw [Int.toNat_natCast, getD_last]; exact d1
    (repeat' (first | fail "W" | fail "R"))
    all_goals first
      | (refine bDI (by decide) ?_
         (repeat' (first | fail "W" | fail "R"))
         refine cUse leaf (by decide) ?_
         intro q H1 hq
         (repeat' (first | fail "W" | fail "R"))
         exact done q H1 hq)
      | exact kn _ _ ⟨T, laid, nodes, 0, h, Ext.refl T, Same.refl _ _, ⟨[], by simp, by simp, by simp⟩, fun e => by omega, rfl⟩
  rintro m' H1 ⟨T1, laid1, nodes1, lf, h1, ex1, S1, ⟨lfs, rfl, hlfs, hlfw⟩, hlf, rfl⟩
  have bx := ax.ext h.L ex1 lfs
  have by' := ay.ext h.L ex1 lfs
  have bz := az.ext h.L ex1 lfs
  have po := parts_ok two bx by' bz hs8 hlf
  have pick := pick8 (x : Int) (y : Int) (z : Int) lf hs8
  have h3p : n % 8 = 3 → stParts (x : Int) (y : Int) (z : Int) lf (n % 8).toNat = [(x : Int)] := fun e => by rw [e]; rfl
  generalize stParts (x : Int) (y : Int) (z : Int) lf (n % 8).toNat = ps at po pick h3p
  have hsm := h1.L.small
  have hrl := h1.rl
  have l1 : (laid ++ lfs).length ≤ 27 := by simp; omega
  have l2 : (laid ++ lfs).length ≤ laid.length + 1 := by simp; omega
  have sp1 : H1 as = some (.list (spine.map fun (q : Nat) => .int (q : Int))) := S1 _ _ hsp (fun q => has (sub_at [2, 3, 4, 5, 6, 7, 8] rfl _ q))
  (repeat' (first | fail "W" | fail "R"))
  refine gT (by omega) (itemAt_of hs8.1 pick) ?_
  (repeat' (first | fail "W" | fail "R"))
  refine itT ?_
  refine ⟨by rw [List.length_map]; have := po.len; omega, ?_⟩
  refine compM (f := fun p => match p with | .int y => .int ((laid ++ lfs).getD y.toNat 0) | _ => .none) trivial ?_ ?_
  · rintro pv K3 hpv kk
    obtain ⟨i, hi, rfl⟩ := List.mem_map.mp hpv
    have hi2 := po.lt i hi
    (repeat (first | rw [freeL_neg (by decide +kernel)] | rw [freeL_pos (by decide +kernel)]))
    rw [freeL_nil]
    (repeat' (first | fail "W" | fail "R"))
    refine gL h1.hl (by omega) (itemAt_of hi2.1 (mapGet (by omega))) ?_
    exact kk
  intro c hc
  have em : List.map (fun p => match p with | PV.int y => PV.int ((laid ++ lfs).getD y.toNat 0) | _ => PV.none) (ps.map PV.int) = (ats (laid ++ lfs) ps).map PV.int := by unfold ats; rw [List.map_map, List.map_map]; rfl
  rw [em]
  have g1 := h1.fresh hc (.list ((ats (laid ++ lfs) ps).map PV.int))
  have sp2 := hset_ne (o := .list ((ats (laid ++ lfs) ps).map PV.int)) (ne_fresh sp1 hc) sp1
  have S2 : Same [A.r, A.i, A.p, A.w, A.o, al, ar, as] H (H1.set c (.list ((ats (laid ++ lfs) ps).map PV.int))) :=
    (S1.mono (sub_at [0, 1, 2, 3, 4, 5, 6] rfl)).trans ((Same.fresh hc).mono fun _ q => (nil_out q).elim)
  (repeat' (first | fail "W" | fail "R"))
  refine fTup hset (by rw [List.length_map]; unfold ats; rw [List.length_map]; have := po.len; omega) ?_
  (repeat' (first | fail "W" | fail "R"))
  refine bDI (by decide) ?_
  (repeat' (first | fail "W" | fail "R"))
  refine bMI (by decide) ?_
  generalize H1.set c (.list ((ats (laid ++ lfs) ps).map PV.int)) = H2 at g1 sp2 S2 ⊢
  clear hc S1 sp1
  have K2 := g1.K
  have hal : al ∉ [A.r, A.i, A.p, A.w, A.o] := fun q => by
    exact (h.ne _ (sub_at [2, 3, 4, 5, 6] rfl _ q)).1 rfl
  have har : ar ∉ [A.r, A.i, A.p, A.w, A.o] := fun q => by
    exact (h.ne _ (sub_at [2, 3, 4, 5, 6] rfl _ q)).2 rfl
  have has2 : as ∉ [A.r, A.i, A.p, A.w, A.o] := fun q => has (sub_at [2, 3, 4, 5, 6] rfl _ q)
  -- what the last rows do
  have fin : ∀ (H3 : AH) (T3 : Tab) (k : Nat) (t : Int), KT C H3 a A T3 → T3.Ok → Ext T1 T3 → T3.rows.length ≤ T1.rows.length + 1 → Same [A.r, A.i, A.p, A.w, A.o] H2 H3 → Stands T3 (k : Int) → NodeOk T3 (laid ++ lfs ++ [(k : Int)]) (laid ++ lfs).length ⟨t, ps, Str.ofString ""⟩ →
      wts T3 (k : Int) ≤ wb spine.length → dps T3 (k : Int) ≤ spine.length + 1 → StepP C H a A al ar as T spine .none
        (((H3.set al (.list ((laid ++ lfs).map PV.int ++ [PV.int (k : Int)]))).set ar (.list (nodes1.map Node.pv ++ [PV.tup [.int t, iTp ps, .str (Str.ofString "")]]))).set as (.list ((spine.map fun (q : Nat) => PV.int (q : Int)) ++ [PV.int ((((laid ++ lfs).map PV.int ++ [PV.int (k : Int)]).length : Int) - 1)]))) := by
    intro H3 T3 k t K3 ok3 ex3 len3 S3 st3 no3 w3 d3
    have hg := g1.grow K3 ok3 ex3 (by omega) st3 no3 (by omega) (S3 _ _ g1.hr har)
    refine ⟨rfl, T3, _, _, laid.length + lfs.length, hg.same Same.set (fun b hb => out_sing (hne b hb)), ?_, hs.next h.L (ex1.trans ex3) hlfs (fun q hq => ?_) w3 d3, ex1.trans ex3, ?_⟩
    · rw [hset, List.map_append]
      congr 3
      simp
      omega
    · have hq' : q ∈ laid ++ lfs := by simp [hq]
      obtain ⟨_, _, _, r, hr, _⟩ := g1.L.st q hq'
      have hl := (List.getElem?_eq_some_iff.mp hr).1
      rw [ex3.wts (by rw [g1.L.ok.lw]; exact hl), ex3.dps (by rw [g1.L.ok.ld]; exact hl)]
      exact hlfw q hq
    · exact (((S2.trans (S3.mono (sub_at [0, 1, 2, 3, 4] rfl))).trans (Same.set.mono (sub_at [5] rfl))).trans (Same.set.mono (sub_at [6] rfl))).trans (Same.set.mono (sub_at [7] rfl))
  have tid5 : 64 + n / 8 % 5 ∈ tids := md_tids _
  have tid8 : (8 : Int) ∈ tids := mem_at 0 rfl
  have prb : ∀ {T3 : Tab}, Ext T1 T3 → ∀ k : Nat, k < 16 → T3.rows[k]? = some (.prim k) := fun ex3 k hk => prefix_get ex3.rows (g1.pb k hk)
  have wl : ∀ {r : Row}, r.inner = ats (laid ++ lfs) ps → weiOf T1.wei r ≤ wb spine.length := fun e => by have := po.wei e; omega
  have dl : ∀ {r : Row}, r.inner = ats (laid ++ lfs) ps → depOf T1.dep r ≤ spine.length + 1 := fun e => po.dep g1.L (by omega) e
  have inl : ∀ {r : Row}, r.inner = ats (laid ++ lfs) ps → ∀ x ∈ r.inner, x.toNat < T1.rows.length := fun e x hx => (po.inn g1.L x (by rw [← e]; exact hx)).2.1
  have named : ∀ (H3 : AH) (q : PV) (t : Int), t ∈ tids → (PutP C H2 a A T1 (.cls t (ats (laid ++ lfs) ps)) q H3 ∨ PutP C H2 a A T1 (.vlu t (ats (laid ++ lfs) ps)) q H3) →
      H3 al = some (.list ((laid ++ lfs).map .int)) ∧ H3 ar = some (.list (nodes1.map Node.pv)) ∧ H3 as = some (.list (spine.map fun (q : Nat) => .int (q : Int))) ∧ ∃ k : Nat, q = .int (k : Int) ∧ StepP C H a A al ar as T spine .none
        (((H3.set al (.list ((laid ++ lfs).map PV.int ++ [PV.int (k : Int)]))).set ar (.list (nodes1.map Node.pv ++ [PV.tup [.int t, iTp ps, .str (Str.ofString "")]]))).set as (.list ((spine.map fun (q : Nat) => PV.int (q : Int)) ++ [PV.int ((((laid ++ lfs).map PV.int ++ [PV.int (k : Int)]).length : Int) - 1)]))) := by
    intro H3 q t ht hp
    rcases hp with ⟨k, T3, rfl, K3, ok3, ex3, hr3, len3, S3⟩ | ⟨k, T3, rfl, K3, ok3, ex3, hr3, len3, S3⟩
    · obtain ⟨e1, e2⟩ := put_wd g1.L.ok ok3 ex3 hr3 (inl rfl)
      exact ⟨S3 _ _ g1.hl hal, S3 _ _ g1.hr har, S3 _ _ sp2 has2, k, rfl, fin H3 T3 k t K3 ok3 ex3 len3 S3 (stands_new (prb ex3) hr3 (fun _ e => nomatch e) (by simp [Row.sort])) (node_named po ht (.inl hr3)) (by rw [e1]; exact wl rfl) (by rw [e2]; exact dl rfl)⟩
    · obtain ⟨e1, e2⟩ := put_wd g1.L.ok ok3 ex3 hr3 (inl rfl)
      exact ⟨S3 _ _ g1.hl hal, S3 _ _ g1.hr har, S3 _ _ sp2 has2, k, rfl, fin H3 T3 k t K3 ok3 ex3 len3 S3 (stands_new (prb ex3) hr3 (fun _ e => nomatch e) (by simp [Row.sort])) (node_named po ht (.inr hr3)) (by rw [e1]; exact wl rfl) (by rw [e2]; exact dl rfl)⟩
  have arr : ∀ (H3 : AH) (q : PV), n % 8 = 3 → PutP C H2 a A T1 (.arr ((laid ++ lfs).getD x 0)) q H3 →
      H3 al = some (.list ((laid ++ lfs).map .int)) ∧ H3 ar = some (.list (nodes1.map Node.pv)) ∧ H3 as = some (.list (spine.map fun (q : Nat) => .int (q : Int))) ∧ ∃ k : Nat, q = .int (k : Int) ∧ StepP C H a A al ar as T spine .none
        (((H3.set al (.list ((laid ++ lfs).map PV.int ++ [PV.int (k : Int)]))).set ar (.list (nodes1.map Node.pv ++ [PV.tup [.int (-1), iTp ps, .str (Str.ofString "")]]))).set as (.list ((spine.map fun (q : Nat) => PV.int (q : Int)) ++ [PV.int ((((laid ++ lfs).map PV.int ++ [PV.int (k : Int)]).length : Int) - 1)]))) := by
    rintro H3 q h3 ⟨k, T3, rfl, K3, ok3, ex3, hr3, len3, S3⟩
    have e := h3p h3
    have ei : (Row.arr ((laid ++ lfs).getD x 0)).inner = ats (laid ++ lfs) ps := by rw [e]; rfl
    obtain ⟨e1, e2⟩ := put_wd g1.L.ok ok3 ex3 hr3 (inl ei)
    exact ⟨S3 _ _ g1.hl hal, S3 _ _ g1.hr har, S3 _ _ sp2 has2, k, rfl, fin H3 T3 k (-1) K3 ok3 ex3 len3 S3 (stands_new (prb ex3) hr3 (fun _ e => nomatch e) (by simp [Row.sort])) (by rw [e]; exact node_arr bx hr3) (by rw [e1]; exact wl ei) (by rw [e2]; exact dl ei)⟩
  have fitc : ∀ t, t ∈ tids → Fits C H2 a A T1 (.cls t (ats (laid ++ lfs) ps)) ∧ Fits C H2 a A T1 (.vlu t (ats (laid ++ lfs) ps)) := fun t ht => by
    have r := po.row g1.L ht
    exact ⟨⟨K2, g1.L.ok, r.1, by omega, by have := dl (r := .cls t (ats (laid ++ lfs) ps)) rfl; omega, by have := wl (r := .cls t (ats (laid ++ lfs) ps)) rfl; omega⟩,
      ⟨K2, g1.L.ok, r.2, by omega, by have := dl (r := .vlu t (ats (laid ++ lfs) ps)) rfl; omega, by have := wl (r := .vlu t (ats (laid ++ lfs) ps)) rfl; omega⟩⟩
  have fita : n % 8 = 3 → Fits C H2 a A T1 (.arr ((laid ++ lfs).getD x 0)) := fun h3 => by
    have e := h3p h3
    have ei : (Row.arr ((laid ++ lfs).getD x 0)).inner = ats (laid ++ lfs) ps := by rw [e]; rfl
    exact ⟨K2, g1.L.ok, by have := g1.L.stands bx; rw [Int.toNat_natCast] at this; exact this, by omega, by have := dl ei; omega, by have := wl ei; omega⟩
  clear fin inl wl dl prb hwl hw14 ax ay az by' bz pick slen two hrl hlfs hlfw hlf l2 ex1 K S2
  (repeat' (first | fail "W" | fail "R"))
  all_goals refine mApp g1.hl ?_
  all_goals (repeat' (first | fail "W" | fail "R"))
  all_goals first
    | (have h3 : ¬ n % 8 = 3 := by omega)
    | (have h3 : n % 8 = 3 := by omega
       refine gL g1.hl (by have := bx.lt; omega) (itemAt_nat (mapGet (l := laid ++ lfs) (k := x) (by have := bx.lt; omega))) ?_
       (repeat' (first | fail "W" | fail "R"))
       refine cUse (array_kind G ho (fita h3)) (by decide) ?_
       intro q H3 hp
       obtain ⟨q1, q2, q3, k, rfl, hf⟩ := arr H3 q h3 hp
       have e1 : ∀ o, (H3.set al o) ar = _ := fun o => hset_ne (Ne.symm h.na) q2
       have e2 : ∀ o o', ((H3.set al o).set ar o') as = _ := fun o o' => hset_ne (Ne.symm (hne ar (mem_at 8 rfl))) (hset_ne (Ne.symm (hne al (mem_at 7 rfl))) q3)
       (repeat' (first | fail "W" | fail "R"))
       refine rApp q1 (by rw [List.length_map]; omega) ?_
       (repeat' (first | fail "W" | fail "R"))
       refine mApp (e1 _) ?_
       (repeat' (first | fail "W" | fail "R"))
       refine rApp (e1 _) (by rw [List.length_map, ← h1.L.len]; omega) ?_
       (repeat' (first | fail "W" | fail "R"))
       refine mApp (e2 _ _) ?_
       (repeat' (first | fail "W" | fail "R"))
       refine fLenL (hset_ne h.na hset) (by rw [List.length_append, List.length_map]; simp only [List.length_cons, List.length_nil]; omega) ?_
       (repeat' (first | fail "W" | fail "R"))
       refine rApp (e2 _ _) (by rw [List.length_map]; omega) ?_
       (repeat' (first | fail "W" | fail "R"))
       exact hf)
  all_goals first
    | (refine cUse (value_kind G ho (fitc _ (by first | exact tid5 | exact tid8)).2) (by decide) ?_
       intro q H3 hp
       obtain ⟨q1, q2, q3, k, rfl, hf⟩ := named H3 q _ (by first | exact tid5 | exact tid8) (.inr hp)
       have e1 : ∀ o, (H3.set al o) ar = _ := fun o => hset_ne (Ne.symm h.na) q2
       have e2 : ∀ o o', ((H3.set al o).set ar o') as = _ := fun o o' => hset_ne (Ne.symm (hne ar (mem_at 8 rfl))) (hset_ne (Ne.symm (hne al (mem_at 7 rfl))) q3)
       (repeat' (first | fail "W" | fail "R"))
       refine rApp q1 (by rw [List.length_map]; omega) ?_
       (repeat' (first | fail "W" | fail "R"))
       refine mApp (e1 _) ?_
       (repeat' (first | fail "W" | fail "R"))
       refine rApp (e1 _) (by rw [List.length_map, ← h1.L.len]; omega) ?_
       (repeat' (first | fail "W" | fail "R"))
       refine mApp (e2 _ _) ?_
       (repeat' (first | fail "W" | fail "R"))
       refine fLenL (hset_ne h.na hset) (by rw [List.length_append, List.length_map]; simp only [List.length_cons, List.length_nil]; omega) ?_
       (repeat' (first | fail "W" | fail "R"))
       refine rApp (e2 _ _) (by rw [List.length_map]; omega) ?_
       (repeat' (first | fail "W" | fail "R"))
       exact hf)
    | (refine cUse (class_kind G ho (fitc _ (by first | exact tid5 | exact tid8)).1) (by decide) ?_
       intro q H3 hp
       obtain ⟨q1, q2, q3, k, rfl, hf⟩ := named H3 q _ (by first | exact tid5 | exact tid8) (.inl hp)
       have e1 : ∀ o, (H3.set al o) ar = _ := fun o => hset_ne (Ne.symm h.na) q2
       have e2 : ∀ o o', ((H3.set al o).set ar o') as = _ := fun o o' => hset_ne (Ne.symm (hne ar (mem_at 8 rfl))) (hset_ne (Ne.symm (hne al (mem_at 7 rfl))) q3)
       (repeat' (first | fail "W" | fail "R"))
       refine rApp q1 (by rw [List.length_map]; omega) ?_
       (repeat' (first | fail "W" | fail "R"))
       refine mApp (e1 _) ?_
       (repeat' (first | fail "W" | fail "R"))
       refine rApp (e1 _) (by rw [List.length_map, ← h1.L.len]; omega) ?_
       (repeat' (first | fail "W" | fail "R"))
       refine mApp (e2 _ _) ?_
       (repeat' (first | fail "W" | fail "R"))
       refine fLenL (hset_ne h.na hset) (by rw [List.length_append, List.length_map]; simp only [List.length_cons, List.length_nil]; omega) ?_
       (repeat' (first | fail "W" | fail "R"))
       refine rApp (e2 _ _) (by rw [List.length_map]; omega) ?_
       (repeat' (first | fail "W" | fail "R"))
       exact hf)
end
end
section
open PySem PySem.W PySem.Calls PyProof.Rows
open scoped Classical

section
variable {C : Ctx} {p : Params} {mg mb : PySem.Str → Option Value} {H : AH} {a : Addr} {A : KA} {T0 T : Tab} {al w an : Addr} {laid : List Int} {nodes : List Node} {nm : Int → Option PySem.Str}

theorem wrapped_law (G : Good C mg mb) (ho : Our C p) (h : LQ C H a A T al laid nodes) (L0 : Laid T0 laid nodes) (ex0 : Ext T0 T) {ws : List Addr} (hW : WD H w nm T0 laid [A.r, A.i, A.p, A.w, A.o] ws) {jn : Nat} (hN : H an = some (.idict (fun k => (nm k).map PV.str) jn)) (han : an ∉ [A.r, A.i, A.p, A.w, A.o]) (hn : NmOk nm)
    (hlen : T.rows.length ≤ 200) {sort j : Int} (hs : 0 ≤ sort ∧ sort < 4) (hj : 0 ≤ j ∧ j < laid.length) :
    CodeP C 11 (.ref 296) [.val (.ref a), .val (.ref al), .val (.ref w), .val (.ref an), .int sort, .int j] H (WrapP C H a A T al laid nodes nm) := by
  have hsm := h.L.small
  have hjt : j.toNat < laid.length := by omega
  have ag := h.arg hj
  have st := h.L.stands ag
  have wk := ag.w
  have dk := ag.d
  unfold wts at wk
  unfold dps at dk
  have hTX := fun {T1 : Tab} (ok1 : T1.Ok) (ex1 : Ext T T1) (lev : Nat) => h.L.TX ok1 ex1 nm hjt lev
  have lk := mapGet (l := laid) hjt
  obtain ⟨b0, e0, x0, g0⟩ := hW.at (l := 0) (by decide)
  obtain ⟨b1, e1, x1, g1⟩ := hW.at (l := 1) (by decide)
  have t0 := wordsL_get (nm := nm) (T := T0) (lev := 0) hjt
  have t1 := wordsL_get (nm := nm) (T := T0) (lev := 1) hjt
  rw [← L0.TX h.L.ok ex0 nm hjt 0] at t0
  rw [← L0.TX h.L.ok ex0 nm hjt 1] at t1
  generalize laid.getD j.toNat 0 = kk at st wk dk hTX lk t0 t1
  have kin : kk.toNat < T.rows.length := by obtain ⟨_, _, _, r, hr, _⟩ := st; exact (List.getElem?_eq_some_iff.mp hr).1
  have small : ∀ lev, (TX nm T.rows kk lev).length ≤ 98304 := fun lev => TX_small h.L.ok hn kin lev
  have K := h.K
  have k1 : (Str.ofString "&").length = 1 := (S_len "&").trans (by decide +kernel)
  have k2 : (Str.ofString "readonly ").length = 9 := (S_len "readonly ").trans (by decide +kernel)
  have k3 : (Str.ofString "raw ").length = 4 := (S_len "raw ").trans (by decide +kernel)
  have k4 : (Str.ofString "boxed ").length = 6 := (S_len "boxed ").trans (by decide +kernel)
  have k5 : (Str.ofString "<").length = 1 := (S_len "<").trans (by decide +kernel)
  have k6 : (Str.ofString ">").length = 1 := (S_len ">").trans (by decide +kernel)
  have sm0 := small 0
  have sm1 := small 1
  have fin : ∀ {H1 : AH} {T1 : Tab} {k : Nat} {r : Row} {x : PySem.Str}, KT C H1 a A T1 → T1.Ok → Ext T T1 → T1.rows[k]? = some r → T1.rows.length ≤ T.rows.length + 2 → Same [A.r, A.i, A.p, A.w, A.o] H H1 → rowText nm (TX nm T1.rows) 0 r = x → WrapP C H a A T al laid nodes nm (.tup [.int (k : Int), .str x]) H1 :=
    fun {H1 T1 k r x} K1 ok1 ex1 hr1 hl1 S1 e => ⟨k, T1, by rw [TX_row ok1 nm hr1, e], (List.getElem?_eq_some_iff.mp hr1).1, h.put K1 ok1 ex1 S1, ex1, hl1, S1⟩
  refine our_call G ho (ps := ["kt", "laid", "words", "names", "sort", "j"]) rfl rfl rfl (by exact vk6 fun _ _ _ _ _ _ => rfl) rfl (by decide +kernel) fun sc hsc => ?_
  dsimp only [List.zip_cons_cons, List.zip_nil_left, List.zip_nil_right] at hsc ⊢
  (repeat' (first | fail "W" | fail "R"))
  refine gL h.hl (by omega) (itemAt_of hj.1 lk) ?_
  (repeat' (first | fail "W" | fail "R"))
  · refine cUse (byref_kind G ho (k := kk) ⟨K, h.L.ok, st, by omega, by have := dep1 (dep := T.dep) (k := kk) (r := .byr kk) (B := 24) rfl (by decide) (by omega); exact this, by rw [wei1 rfl]; omega⟩) (by omega) (PutP.el fun k T1 H1 K1 ok1 ex1 hr1 hlen1 S1 => ?_)
    (repeat' (first | fail "W" | fail "R"))
    refine gL (hW.same S1).hw (by decide) (itemAt_of (by decide) e0) ?_
    (repeat' (first | fail "W" | fail "R"))
    refine gL (S1 _ _ g0 x0) (by omega) (itemAt_of hj.1 t0) ?_
    (repeat' (first | fail "W" | fail "R"))
    refine bAS (by omega) ?_
    (repeat' (first | fail "W" | fail "R"))
    exact fin K1 ok1 ex1 hr1 (by omega) S1 (by simp only [rowText]; rw [hTX ok1 ex1])
  · refine cUse (roref_kind G ho (k := kk) ⟨K, h.L.ok, st, by omega, by have := dep1 (dep := T.dep) (k := kk) (r := .ror kk) (B := 24) rfl (by decide) (by omega); exact this, by rw [wei1 rfl]; omega⟩) (by omega) (PutP.el fun k T1 H1 K1 ok1 ex1 hr1 hlen1 S1 => ?_)
    (repeat' (first | fail "W" | fail "R"))
    refine gL (hW.same S1).hw (by decide) (itemAt_of (by decide) e0) ?_
    (repeat' (first | fail "W" | fail "R"))
    refine gL (S1 _ _ g0 x0) (by omega) (itemAt_of hj.1 t0) ?_
    (repeat' (first | fail "W" | fail "R"))
    refine bAS (by omega) ?_
    (repeat' (first | fail "W" | fail "R"))
    refine bAS (by rw [app_len]; omega) ?_
    (repeat' (first | fail "W" | fail "R"))
    exact fin K1 ok1 ex1 hr1 (by omega) S1 (by simp only [rowText]; rw [hTX ok1 ex1])
  · refine cUse (raw_kind G ho (k := kk) ⟨K, h.L.ok, st, by omega, by have := dep1 (dep := T.dep) (k := kk) (r := .raw kk) (B := 24) rfl (by decide) (by omega); exact this, by rw [wei1 rfl]; omega⟩) (by omega) (PutP.el fun k T1 H1 K1 ok1 ex1 hr1 hlen1 S1 => ?_)
    (repeat' (first | fail "W" | fail "R"))
    refine gL (hW.same S1).hw (by decide) (itemAt_of (by decide) e0) ?_
    (repeat' (first | fail "W" | fail "R"))
    refine gL (S1 _ _ g0 x0) (by omega) (itemAt_of hj.1 t0) ?_
    (repeat' (first | fail "W" | fail "R"))
    refine bAS (by omega) ?_
    (repeat' (first | fail "W" | fail "R"))
    exact fin K1 ok1 ex1 hr1 (by omega) S1 (by simp only [rowText]; rw [hTX ok1 ex1])
  · have t8 : (8 : Int) ∈ tids := mem_at 0 rfl
    have hnl := name_len hn t8
    refine cUse (value_kind G ho (t := 8) (as := [kk]) ⟨K, h.L.ok, ⟨t8, fun x hx => by simp only [List.mem_singleton] at hx; subst hx; exact st, by simp⟩, by omega, by have := dep1 (dep := T.dep) (k := kk) (r := .vlu 8 [kk]) (B := 24) rfl (by decide) (by omega); exact this, by rw [wei1 rfl]; omega⟩) (by omega) (PutP.el fun k T1 H1 K1 ok1 ex1 hr1 hlen1 S1 => ?_)
    obtain ⟨w1, d1⟩ := put_wd h.L.ok ok1 ex1 hr1 (fun x hx => by simp only [Row.inner, List.mem_singleton] at hx; subst hx; exact kin)
    have d1' : dps T1 (k : Int) ≤ 16 := by rw [d1]; exact dep1 (k := kk) rfl (by decide) (by omega)
    rw [wei1 rfl] at w1
    unfold wts at w1
    unfold dps at d1'
    (repeat' (first | fail "W" | fail "R"))
    refine cUse (boxed_kind G ho (k := (k : Int)) ⟨K1, ok1, ⟨Int.natCast_nonneg k, 8, [kk], by rw [Int.toNat_natCast]; exact hr1⟩, by omega, by have := dep1 (dep := T1.dep) (k := (k : Int)) (r := .box (k : Int)) (B := 24) rfl (by decide) (by omega); exact this, by rw [wei1 rfl]; omega⟩) (by omega) (PutP.el fun k' T2 H2 K2 ok2 ex2 hr2 hlen2 S2 => ?_)
    have S12 := S1.trans S2
    (repeat' (first | fail "W" | fail "R"))
    have hN2 := S12 _ _ hN han
    refine mGetD hN2 ?_
    (repeat' (first | fail "W" | fail "R"))
    refine rGetD hN2 ?_
    rw [dget8]
    refine bAS (by omega) ?_
    (repeat' (first | fail "W" | fail "R"))
    refine bAS (by rw [app_len]; omega) ?_
    (repeat' (first | fail "W" | fail "R"))
    refine gL (hW.same S12).hw (by decide) (itemAt_of (by decide) e1) ?_
    (repeat' (first | fail "W" | fail "R"))
    refine gL (S12 _ _ g1 x1) (by omega) (itemAt_of hj.1 t1) ?_
    refine bAS (by rw [app_len, app_len]; omega) ?_
    (repeat' (first | fail "W" | fail "R"))
    refine bAS (by rw [app_len, app_len, app_len]; omega) ?_
    (repeat' (first | fail "W" | fail "R"))
    refine fin K2 ok2 (ex1.trans ex2) hr2 (by omega) S12 ?_
    simp only [rowText]
    rw [TX_row ok2 nm (prefix_get ex2.rows hr1)]
    simp only [rowText, argsText]
    rw [if_neg (by first | exact nil_out | exact fun _ _ => nil_out | exact fun _ h => (nil_out h).elim | exact fun e => AObj.noConfusion e | exact mem_at 0 rfl | exact mem_at 1 rfl | exact mem_at 2 rfl | exact mem_at 3 rfl | exact mem_at 4 rfl | exact mem_at 5 rfl | exact mem_at 6 rfl | exact mem_at 7 rfl | exact mem_at 8 rfl | exact mem_at 9 rfl | simp), if_neg (by decide)]
    simp only [List.map_cons, List.map_nil, join1, Nat.zero_add]
    rw [hTX ok2 (ex1.trans ex2)]
    simp only [PySem.Str.append_assoc]
end
end
section
open PySem PySem.W PySem.Calls PyProof.Rows
open scoped Classical

section
variable {C : Ctx} {p : Params} {mg mb : PySem.Str → Option Value} {H : AH} {a : Addr} {A : KA} {T0 T : Tab} {al w : Addr} {laid : List Int} {nodes : List Node} {nm : Int → Option PySem.Str}

theorem pointer_law (G : Good C mg mb) (ho : Our C p) (h : LQ C H a A T al laid nodes) (L0 : Laid T0 laid nodes) (ex0 : Ext T0 T) {ws : List Addr} (hW : WD H w nm T0 laid [A.r, A.i, A.p, A.w, A.o] ws) (hn : NmOk nm)
    (hlen : T.rows.length ≤ 200) {owner m : Int} {args : List Int} (hp : PartsOk T laid (owner :: args) 2000 15) (hm : m ∈ mids) :
    CodeP C 11 (.ref 301) [.val (.ref a), .val (.ref al), .val (.ref w), .int owner, iTp args, .int m] H (WrapP C H a A T al laid nodes nm) := by
  have hsm := h.L.small
  have K := h.K
  have alen := hp.len
  rw [List.length_cons] at alen
  have aow := hp.arg owner (by first | exact nil_out | exact fun _ _ => nil_out | exact fun _ h => (nil_out h).elim | exact fun e => AObj.noConfusion e | exact mem_at 0 rfl | exact mem_at 1 rfl | exact mem_at 2 rfl | exact mem_at 3 rfl | exact mem_at 4 rfl | exact mem_at 5 rfl | exact mem_at 6 rfl | exact mem_at 7 rfl | exact mem_at 8 rfl | exact mem_at 9 rfl | simp)
  have ow0 := aow.n0
  have owl := aow.lt
  have alt : ∀ i ∈ args, 0 ≤ i ∧ i < laid.length := fun i hi => hp.lt i (by simp [hi])
  have tin : ∀ {j : Nat}, j < laid.length → (laid.getD j 0).toNat < T.rows.length := fun hj => (h.L.lt hj).2
  have hm9 : 0 ≤ m ∧ m < 10 := mids_rg _ hm
  have ml := num_len (m := m) (.inl hm)
  obtain ⟨b1, e1, x1, g1⟩ := hW.at (l := 1) (by decide)
  have tw : ∀ {j : Nat}, j < laid.length → (wordsL nm T0 laid 1)[j]? = some (.str (TX nm T.rows (laid.getD j 0) 1)) := fun {j} hj => by rw [wordsL_get hj, L0.TX h.L.ok ex0 nm hj 1]
  have small : ∀ {j : Nat}, j < laid.length → (TX nm T.rows (laid.getD j 0) 1).length ≤ 98304 := fun hj => TX_small h.L.ok hn (tin hj) 1
  have k1 : (Str.ofString "method ").length = 7 := (S_len "method ").trans (by decide +kernel)
  have k2 : (Str.ofString "::").length = 2 := (S_len "::").trans (by decide +kernel)
  have k3 : (Str.ofString ", ").length = 2 := (S_len ", ").trans (by decide +kernel)
  have k5 : (Str.ofString "<").length = 1 := (S_len "<").trans (by decide +kernel)
  have k6 : (Str.ofString ">").length = 1 := (S_len ">").trans (by decide +kernel)
  have smo := small (j := owner.toNat) (by omega)
  unfold S at ml
  refine our_call G ho (ps := ["kt", "laid", "words", "owner", "args", "number"]) rfl rfl rfl (by exact vk6 fun _ _ _ _ _ _ => rfl) rfl (by decide +kernel) fun sc hsc => ?_
  dsimp only [List.zip_cons_cons, List.zip_nil_left, List.zip_nil_right] at hsc ⊢
  (repeat' (first | fail "W" | fail "R"))
  refine gL hW.hw (by decide) (itemAt_of (by decide) e1) ?_
  (repeat' (first | fail "W" | fail "R"))
  refine gL g1 (by omega) (itemAt_of ow0 (tw (by omega))) ?_
  refine bAS (by omega) ?_
  (repeat' (first | fail "W" | fail "R"))
  refine bAS (by rw [app_len]; omega) ?_
  (repeat' (first | fail "W" | fail "R"))
  refine fStr (by omega) ?_
  refine bAS (by rw [app_len, app_len]; omega) ?_
  (repeat' (first | fail "W"))
  refine sIfJ (J := fun m' H' => Same [] H H' ∧ ∃ x, x = Str.ofString "method " ++ TX nm T.rows (laid.getD owner.toNat 0) 1 ++ Str.ofString "::" ++ Str.ofString (toString m) ++ argsText (fun y l => TX nm T.rows (laid.getD y.toNat 0) l) args 0 ∧
      m' = L [("kt", .val (.ref a)), ("laid", .val (.ref al)), ("words", .val (.ref w)), ("owner", .int owner), ("args", iTp args), ("number", .int m), ("text", .str x)]) (fun KK kn _ => ?_) ?_
  · rcases Nat.eq_zero_or_pos args.length with hp0 | hp0
    · have pn : args = [] := List.eq_nil_of_length_eq_zero hp0
      (repeat' (first | fail "W" | fail "R"))
      refine fLenT (by rw [List.length_map]; omega) ?_
      rw [List.length_map]
      (repeat' (first | fail "W" | fail "R"))
      exact kn _ _ ⟨Same.refl _ _, _, by unfold argsText; rw [if_pos pn]; exact (str_app_nil _).symm, rfl⟩
    · have pn : args ≠ [] := by rintro rfl; simp at hp0
      (repeat' (first | fail "W" | fail "R"))
      refine fLenT (by rw [List.length_map]; omega) ?_
      rw [List.length_map]
      (repeat' (first | fail "W" | fail "R"))
      refine bAS (by rw [app_len, app_len, app_len]; omega) ?_
      (repeat' (first | fail "W" | fail "R"))
      refine mJoin ?_
      (repeat' (first | fail "W" | fail "R"))
      refine itT ?_
      refine ⟨by rw [List.length_map]; omega, ?_⟩
      refine compM (f := fun p => match p with | .int y => .str (TX nm T.rows (laid.getD y.toNat 0) 1) | _ => .none) trivial ?_ ?_
      · rintro pv K3 hpv kk
        obtain ⟨y, hy, rfl⟩ := List.mem_map.mp hpv
        have hy2 := alt y hy
        (repeat (first | rw [freeL_neg (by decide +kernel)] | rw [freeL_pos (by decide +kernel)]))
        rw [freeL_nil]
        (repeat' (first | fail "W" | fail "R"))
        refine gL hW.hw (by decide) (itemAt_of (by decide) e1) ?_
        (repeat' (first | fail "W" | fail "R"))
        refine gL g1 (by omega) (itemAt_of hy2.1 (tw (by omega))) ?_
        exact kk
      · intro c hc
        have hj : ∀ z ∈ (args.map fun y => TX nm T.rows (laid.getD y.toNat 0) 1), z.length ≤ 98304 := fun z hz => by
          obtain ⟨y, hy, rfl⟩ := List.mem_map.mp hz
          exact small (by have := alt y hy; omega)
        have hjl := sum_small hj
        have hjj := join_len (Str.ofString ", ") (args.map fun y => TX nm T.rows (laid.getD y.toNat 0) 1)
        rw [k3] at hjj
        simp only [List.length_map] at hjl hjj
        (repeat' (first | fail "W" | fail "R"))
        refine rJoin (ys := args.map fun y => TX nm T.rows (laid.getD y.toNat 0) 1) hset (by rw [List.map_map, List.map_map]; rfl) (by rw [k3]; simp only [List.length_map]; omega) ?_
        refine bAS (by rw [app_len, app_len, app_len, app_len, k5]; omega) ?_
        (repeat' (first | fail "W" | fail "R"))
        refine bAS (by rw [app_len, app_len, app_len, app_len, app_len, k5, k6]; omega) ?_
        (repeat' (first | fail "W" | fail "R"))
        exact kn _ _ ⟨Same.fresh hc, _, by unfold argsText; rw [if_neg pn, if_neg (by decide)]; simp only [PySem.Str.append_assoc, Nat.zero_add], rfl⟩
  rintro m' H1 ⟨S1, x, hx, rfl⟩
  have h1 := h.same S1 (by first | exact nil_out | exact fun _ _ => nil_out | exact fun _ h => (nil_out h).elim | exact fun e => AObj.noConfusion e | exact mem_at 0 rfl | exact mem_at 1 rfl | exact mem_at 2 rfl | exact mem_at 3 rfl | exact mem_at 4 rfl | exact mem_at 5 rfl | exact mem_at 6 rfl | exact mem_at 7 rfl | exact mem_at 8 rfl | exact mem_at 9 rfl | simp)
  (repeat' (first | fail "W" | fail "R"))
  refine gL h1.hl (by omega) (itemAt_of ow0 (mapGet (by omega))) ?_
  (repeat' (first | fail "W" | fail "R"))
  refine itT ?_
  refine ⟨by rw [List.length_map]; omega, ?_⟩
  refine compM (f := fun p => match p with | .int y => .int (laid.getD y.toNat 0) | _ => .none) trivial ?_ ?_
  · rintro pv K3 hpv kk
    obtain ⟨i, hi, rfl⟩ := List.mem_map.mp hpv
    have hi2 := alt i hi
    (repeat (first | rw [freeL_neg (by decide +kernel)] | rw [freeL_pos (by decide +kernel)]))
    rw [freeL_nil]
    (repeat' (first | fail "W" | fail "R"))
    refine gL h1.hl (by omega) (itemAt_of hi2.1 (mapGet (by omega))) ?_
    exact kk
  intro c hc
  have em : List.map (fun p => match p with | PV.int y => PV.int (laid.getD y.toNat 0) | _ => PV.none) (args.map PV.int) = (ats laid args).map PV.int := by unfold ats; rw [List.map_map, List.map_map]; rfl
  rw [em]
  have S2 : Same [] H (H1.set c (.list ((ats laid args).map PV.int))) := S1.trans (Same.fresh hc)
  have h2 := h.same S2 (by first | exact nil_out | exact fun _ _ => nil_out | exact fun _ h => (nil_out h).elim | exact fun e => AObj.noConfusion e | exact mem_at 0 rfl | exact mem_at 1 rfl | exact mem_at 2 rfl | exact mem_at 3 rfl | exact mem_at 4 rfl | exact mem_at 5 rfl | exact mem_at 6 rfl | exact mem_at 7 rfl | exact mem_at 8 rfl | exact mem_at 9 rfl | simp)
  (repeat' (first | fail "W" | fail "R"))
  refine fTup hset (by rw [List.length_map]; unfold ats; rw [List.length_map]; omega) ?_
  generalize H1.set c (.list ((ats laid args).map PV.int)) = H2 at S2 h2 ⊢
  (repeat' (first | fail "W" | fail "R"))
  have ri : (Row.ftn (laid.getD owner.toNat 0) m (ats laid args)).inner = ats laid (owner :: args) := rfl
  have F : Fits C H2 a A T (.ftn (laid.getD owner.toNat 0) m (ats laid args)) := ⟨h2.K, h.L.ok, ⟨h.L.stands aow, hm, fun x hx => (hp.inn h.L x (by unfold ats at hx ⊢; rw [List.map_cons]; exact List.mem_cons_of_mem _ hx)).1, by unfold ats; rw [List.length_map]; omega⟩, by omega, by have := hp.dep h.L (by decide) ri; omega, by have := hp.wei ri; omega⟩
  refine cUse (ftn_kind G ho F) (by omega) (PutP.el fun k T3 H3 K3 ok3 ex3 hr3 len3 S3 => ?_)
  (repeat' (first | fail "W" | fail "R"))
  refine ⟨k, T3, ?_, (List.getElem?_eq_some_iff.mp hr3).1, h2.put K3 ok3 ex3 S3, ex3, by omega, (S2.mono (by first | exact nil_out | exact fun _ _ => nil_out | exact fun _ h => (nil_out h).elim | exact fun e => AObj.noConfusion e | exact mem_at 0 rfl | exact mem_at 1 rfl | exact mem_at 2 rfl | exact mem_at 3 rfl | exact mem_at 4 rfl | exact mem_at 5 rfl | exact mem_at 6 rfl | exact mem_at 7 rfl | exact mem_at 8 rfl | exact mem_at 9 rfl | simp)).trans S3⟩
  rw [TX_row ok3 nm hr3]
  simp only [rowText]
  have tt : ∀ {j : Nat}, j < laid.length → ∀ lev, TX nm T3.rows (laid.getD j 0) lev = TX nm T.rows (laid.getD j 0) lev := fun hj lev => h.L.TX ok3 ex3 nm hj lev
  have em2 : argsText (TX nm T3.rows) (ats laid args) 0 = argsText (fun y l => TX nm T.rows (laid.getD y.toNat 0) l) args 0 := by
    unfold argsText ats
    rw [List.map_map]
    by_cases hq : args = []
    · rw [hq]; rfl
    · rw [if_neg hq, if_neg (by simpa using hq), if_neg (by decide), if_neg (by decide)]
      congr 3
      exact List.map_congr_left fun y hy => tt (by have := alt y hy; omega) _
  rw [em2, tt (by omega), hx]
end
end
section
open PySem PySem.W PySem.Calls PyProof.Rows
open scoped Classical

section
variable {C : Ctx} {p : Params} {mg mb : PySem.Str → Option Value}

theorem kind_at (G : Good C mg mb) (ho : Our C p) {H : AH} {a : Addr} {A : KA} {T : Tab} {an : Addr} {nm : Int → Option PySem.Str} (K : KT C H a A T) (hT : T.Ok) (hl : T.rows.length ≤ 80) {j : Nat} (hN : H an = some (.idict (fun k => (nm k).map PV.str) j)) (hn : NmOk nm) {k : Int} (k0 : 0 ≤ k) (hk : k.toNat < T.rows.length) :
    CodeP C 330 (.ref 236) [.val (.ref a), .int k, .val (.ref an)] H (fun q H' => q = .str (TX nm T.rows k 0) ∧ Same [] H H') := by
  obtain ⟨n, rfl⟩ := Int.eq_ofNat_of_zero_le k0
  rw [Int.toNat_natCast] at hk
  exact (kind_sound G ho K hT (by omega) hN hn hk).mono (by omega)

theorem law_rest (G : Good C mg mb) (ho : Our C p) {H : AH} {a : Addr} {A : KA} {T : Tab} {al ar sp cv c0 : Addr} {laid vs : List Int} {nodes : List Node} {spine : List Nat} {u tl : PV} (hL : LS C H a A T al ar laid nodes) (hS : SP T laid spine) (h12 : 12 ≤ spine.length) (h15 : spine.length ≤ 15)
    (gsp : H sp = some (.list (spine.map fun (q : Nat) => .int (q : Int)))) (gv : H cv = some (.list (vs.map PV.int))) (lsp : sp ∉ [a, A.d, A.r, A.i, A.p, A.w, A.o, al, ar]) (lcv : cv ∉ [A.r, A.i, A.p, A.w, A.o, al, ar, sp])
    {v0 v1 v2 : Int} (q0 : (vs.map PV.int)[0]? = some (.int v0)) (q1 : (vs.map PV.int)[1]? = some (.int v1)) (q2 : (vs.map PV.int)[2]? = some (.int v2)) (v0b : 0 ≤ v0 ∧ v0 < 100000) (v1b : 0 ≤ v1 ∧ v1 < 100000) (v2b : 0 ≤ v2 ∧ v2 < 100000) :
    ∀ fd body, lawFd p = some fd → fd.body = .stmts body → awSs C 400 (restE body) fd.scope (L [("script", .val (.ref c0)), ("tail", tl), ("v", .val (.ref cv)), ("kt", .val (.ref a)), ("laid", .val (.ref al)), ("rows", .val (.ref ar)), ("spine", .val (.ref sp)), ("n", u)]) H (retQ fun q _ => q = .bool true) := by
  refine law_start (P := fun body sc => awSs C 400 (restE body) sc (L [("script", .val (.ref c0)), ("tail", tl), ("v", .val (.ref cv)), ("kt", .val (.ref a)), ("laid", .val (.ref al)), ("rows", .val (.ref ar)), ("spine", .val (.ref sp)), ("n", u)]) H (retQ fun q _ => q = .bool true)) rfl rfl rfl fun sc hsc => ?_
  dsimp only [restE] at hsc ⊢
  have slen := hS.len
  have rl := hL.rl
  have hQ := hS.lq hL h15
  obtain ⟨x, hx⟩ : ∃ x, spine[spine.length - 1]? = some x := ⟨_, List.getElem?_eq_getElem (by omega)⟩
  obtain ⟨y, hy⟩ : ∃ y, spine[spine.length - 2]? = some y := ⟨_, List.getElem?_eq_getElem (by omega)⟩
  obtain ⟨z, hz⟩ : ∃ z, spine[1]? = some z := ⟨_, List.getElem?_eq_getElem (by omega)⟩
  obtain ⟨hi, hhi⟩ : ∃ hi : Nat, (hi : Int) = v0 / 6 % 7 := ⟨(v0 / 6 % 7).toNat, Int.toNat_of_nonneg (by omega)⟩
  have hi7 : hi < 7 := by omega
  obtain ⟨f, hf⟩ : ∃ f, spine[hi]? = some f := ⟨_, List.getElem?_eq_getElem (by omega)⟩
  have ln0 : 0 < laid.length := by have := hS.lt x (List.mem_of_getElem? hx); omega
  obtain ⟨j, hj, jb⟩ : ∃ j : Nat, (j : Int) = v0 / 1536 % ((laid.map PV.int).length : Int) ∧ j < laid.length := ⟨(v0 / 1536 % ((laid.map PV.int).length : Int)).toNat, by
    rw [List.length_map]; exact Int.toNat_of_nonneg (Int.emod_nonneg _ (by omega)), by
    rw [List.length_map]
    have := Int.emod_lt_of_pos (v0 / 1536) (b := (laid.length : Int)) (by omega)
    have := Int.emod_nonneg (v0 / 1536) (b := (laid.length : Int)) (by omega)
    omega⟩
  have xb := hS.lt x (List.mem_of_getElem? hx)
  have yb := hS.lt y (List.mem_of_getElem? hy)
  have fb := hS.lt f (List.mem_of_getElem? hf)
  have zb := hS.lt z (List.mem_of_getElem? hz)
  have af : Arg T laid f 37 15 := (hS.arg hf).mono (wb_mono (show hi ≤ 6 by omega)) (by omega)
  have az : Arg T laid z 1 15 := (hS.arg hz).mono (Int.le_refl _) (by omega)
  clear slen
  (repeat' (first | fail "W" | fail "R"))
  refine gL gsp (by omega) (itemAt_m1 (i := spine.length - 1) (by rw [List.length_map]; omega) (natL_get hx)) ?_
  (repeat' (first | fail "W" | fail "R"))
  refine gL gv (by decide) (itemAt_of (by decide) q0) ?_
  (repeat' (first | fail "W" | fail "R"))
  refine bDI (by decide) ?_
  (repeat' (first | fail "W" | fail "R"))
  refine fLenL hL.hl (by rw [List.length_map]; have := hL.L.small; omega) ?_
  refine bMI (by rw [List.length_map]; omega) ?_
  rw [← hj]
  (repeat' (first | fail "W" | fail "R"))
  refine gL gv (by decide) (itemAt_of (by decide) q0) ?_
  (repeat' (first | fail "W" | fail "R"))
  refine bDI (by decide) ?_
  (repeat' (first | fail "W" | fail "R"))
  refine bMI (by decide) ?_
  rw [← hhi]
  refine gL gsp (by omega) (itemAt_nat (natL_get hf)) ?_
  (repeat' (first | fail "W" | fail "R"))
  refine gL gv (by decide) (itemAt_of (by decide) q0) ?_
  (repeat' (first | fail "W" | fail "R"))
  refine bDI (by decide) ?_
  (repeat' (first | fail "W" | fail "R"))
  refine bMI (by decide) ?_
  (repeat' (first | fail "W" | fail "R"))
  refine gL gv (by decide) (itemAt_of (by decide) q0) ?_
  (repeat' (first | fail "W" | fail "R"))
  refine bDI (by decide) ?_
  (repeat' (first | fail "W" | fail "R"))
  refine bMI (by decide) ?_
  (repeat' (first | fail "W" | fail "R"))
  refine cUse (names_law G ho _ _) (by decide) (namesEl fun an nm jn H1 han gan nmok S1 => ?_)
  (repeat' (first | fail "W" | fail "R"))
  have hL1 := hL.same S1 (by first | exact nil_out | exact fun _ _ => nil_out | exact fun _ h => (nil_out h).elim | exact fun e => AObj.noConfusion e | exact mem_at 0 rfl | exact mem_at 1 rfl | exact mem_at 2 rfl | exact mem_at 3 rfl | exact mem_at 4 rfl | exact mem_at 5 rfl | exact mem_at 6 rfl | exact mem_at 7 rfl | exact mem_at 8 rfl | exact mem_at 9 rfl | simp)
  refine cUse (words_law G ho hL1.L hL1.hr gan nmok) (by decide) (wordsEl fun w ws H2 hw gw wlen wrow S2 => ?_)
  have hL2 := hL1.same S2 (by first | exact nil_out | exact fun _ _ => nil_out | exact fun _ h => (nil_out h).elim | exact fun e => AObj.noConfusion e | exact mem_at 0 rfl | exact mem_at 1 rfl | exact mem_at 2 rfl | exact mem_at 3 rfl | exact mem_at 4 rfl | exact mem_at 5 rfl | exact mem_at 6 rfl | exact mem_at 7 rfl | exact mem_at 8 rfl | exact mem_at 9 rfl | simp)
  have W2 : WD H2 w nm T laid [A.r, A.i, A.p, A.w, A.o] ws := WD.mk' hL1.K hw gw wlen wrow
  have gan2 := S2 _ _ gan (by first | exact nil_out | exact fun _ _ => nil_out | exact fun _ h => (nil_out h).elim | exact fun e => AObj.noConfusion e | exact mem_at 0 rfl | exact mem_at 1 rfl | exact mem_at 2 rfl | exact mem_at 3 rfl | exact mem_at 4 rfl | exact mem_at 5 rfl | exact mem_at 6 rfl | exact mem_at 7 rfl | exact mem_at 8 rfl | exact mem_at 9 rfl | simp)
  have oan := hL.K.out han
  have S12 := S1.trans S2
  have hQ2 := hQ.same S12 (by first | exact nil_out | exact fun _ _ => nil_out | exact fun _ h => (nil_out h).elim | exact fun e => AObj.noConfusion e | exact mem_at 0 rfl | exact mem_at 1 rfl | exact mem_at 2 rfl | exact mem_at 3 rfl | exact mem_at 4 rfl | exact mem_at 5 rfl | exact mem_at 6 rfl | exact mem_at 7 rfl | exact mem_at 8 rfl | exact mem_at 9 rfl | simp)
  clear hL1 wrow hw gw wlen S1 S2 han gan
  (repeat' (first | fail "W" | fail "R"))
  refine fRng1 ⟨by omega, by omega, .inl rfl⟩ ?_
  refine itR ⟨by omega, by omega, .inl rfl⟩ ?_
  refine ⟨by rw [rng_len (by decide)]; decide, ?_⟩
  refine compM (f := fun p => .tup [p, .str (primText (unI p))]) trivial ?_ ?_
  · intro pv K3 hpv kk
    obtain ⟨i, hi, hpi⟩ := List.mem_iff_getElem.mp hpv
    have hpi' := List.getElem?_eq_getElem hi
    rw [hpi] at hpi'
    obtain ⟨rfl, i16⟩ := rng_get hpi'
    (repeat (first | rw [freeL_neg (by decide +kernel)] | rw [freeL_pos (by decide +kernel)]))
    rw [freeL_nil]
    (repeat' (first | fail "W" | fail "R"))
    refine gT (by omega) (itemAt_nat (primW_get (by omega))) ?_
    (repeat' (first | fail "W" | fail "R"))
    exact kk
  intro ak hak
  rw [asks_prim (nm := nm) hL.L.ok hL.pb]
  have gsp2 := S12 _ _ gsp (by first | exact nil_out | exact fun _ _ => nil_out | exact fun _ h => (nil_out h).elim | exact fun e => AObj.noConfusion e | exact mem_at 0 rfl | exact mem_at 1 rfl | exact mem_at 2 rfl | exact mem_at 3 rfl | exact mem_at 4 rfl | exact mem_at 5 rfl | exact mem_at 6 rfl | exact mem_at 7 rfl | exact mem_at 8 rfl | exact mem_at 9 rfl | simp)
  have gv2 := S12 _ _ gv (by first | exact nil_out | exact fun _ _ => nil_out | exact fun _ h => (nil_out h).elim | exact fun e => AObj.noConfusion e | exact mem_at 0 rfl | exact mem_at 1 rfl | exact mem_at 2 rfl | exact mem_at 3 rfl | exact mem_at 4 rfl | exact mem_at 5 rfl | exact mem_at 6 rfl | exact mem_at 7 rfl | exact mem_at 8 rfl | exact mem_at 9 rfl | simp)
  have nak : ∀ b ob, H2 b = some ob → b ≠ ak := fun b ob e => ne_fresh e hak
  have oak := hQ2.K.out hak
  have AQ0 : AQ C (H2.set ak (.list (asksL nm T (List.range 16)))) (H2.set ak (.list (asksL nm T (List.range 16)))) a A T T al laid nodes nm w ws an jn ak (List.range 16) := by
    refine ⟨hQ2.same (Same.fresh hak) (by first | exact nil_out | exact fun _ _ => nil_out | exact fun _ h => (nil_out h).elim | exact fun e => AObj.noConfusion e | exact mem_at 0 rfl | exact mem_at 1 rfl | exact mem_at 2 rfl | exact mem_at 3 rfl | exact mem_at 4 rfl | exact mem_at 5 rfl | exact mem_at 6 rfl | exact mem_at 7 rfl | exact mem_at 8 rfl | exact mem_at 9 rfl | simp), hL.L, Ext.refl T, W2.same ((Same.fresh hak).mono (by first | exact nil_out | exact fun _ _ => nil_out | exact fun _ h => (nil_out h).elim | exact fun e => AObj.noConfusion e | exact mem_at 0 rfl | exact mem_at 1 rfl | exact mem_at 2 rfl | exact mem_at 3 rfl | exact mem_at 4 rfl | exact mem_at 5 rfl | exact mem_at 6 rfl | exact mem_at 7 rfl | exact mem_at 8 rfl | exact mem_at 9 rfl | simp)), hset_ne (nak _ _ gan2) gan2, fun q => oan (sub_at [2, 3, 4, 5, 6] rfl _ q), nmok, hset, fun k hk => ?_, ?_, fun b hb => ?_, Same.refl _ _⟩
    · exact (List.getElem?_eq_some_iff.mp (hL.pb k (List.mem_range.mp hk))).1
    · have ka : ∀ b ∈ [a, A.d, A.r, A.i, A.p, A.w, A.o], b ≠ ak := fun b hb e => oak (e ▸ hb)
      exact fun b hb => (List.mem_append (s := [a, A.d, A.r, A.i, A.p, A.w, A.o]) (t := [al, w, an]).mp hb).elim (ka b) (al_cons (P := (· ≠ ak)) (nak _ _ hQ2.hl) (al_cons (nak _ _ W2.hw) (sing (nak _ _ gan2))) b)
    · obtain ⟨l, hl, e⟩ := List.mem_iff_getElem.mp hb
      exact nak _ _ (W2.row l b (by rw [List.getElem?_eq_getElem hl, e])).2
  have B1 := hset_ne (o := .list (asksL nm T (List.range 16))) (nak _ _ gsp2) gsp2
  have B2 := hset_ne (o := .list (asksL nm T (List.range 16))) (nak _ _ gv2) gv2
  have B3 := hset_ne (o := .list (asksL nm T (List.range 16))) (nak _ _ hL2.hr) hL2.hr
  have nsa : sp ∉ [A.r, A.i, A.p, A.w, A.o, ak] := out_at [2, 3, 4, 5, 6] [ak] rfl lsp (out_sing (nak _ _ gsp2))
  have nva : cv ∉ [A.r, A.i, A.p, A.w, A.o, ak] := out_at [0, 1, 2, 3, 4] [ak] rfl lcv (out_sing (nak _ _ gv2))
  have nra : ar ∉ [A.r, A.i, A.p, A.w, A.o, ak] := out_at [0, 1, 2, 3, 4] [ak] (l' := [A.r, A.i, A.p, A.w, A.o]) rfl (fun q => (hL.ne _ (sub_at [2, 3, 4, 5, 6] rfl _ q)).2 rfl) (out_sing (nak _ _ hL2.hr))
  have len0 : T.rows.length ≤ 72 := by have := hL.rl; have := hS.len; omega
  have LT := hL.L
  generalize H2.set ak (.list (asksL nm T (List.range 16))) = Hb at AQ0 B1 B2 B3 ⊢
  have klen : (List.range 16).length ≤ 16 := by simp
  generalize List.range 16 = ks at AQ0 klen
  have lsm := LT.small
  clear hL2 W2 gan2 oan S12 hQ2 gsp2 gv2 nak oak hak hQ hL hS gsp gv lsp lcv rl
  (repeat' (first | fail "W" | fail "R"))
  have al' : ∀ {T : Tab} {ks : List Nat}, (asksL nm T ks).length = ks.length := fun {T ks} => by unfold asksL; rw [List.length_map]
  refine mApp AQ0.k ?_
  (repeat' (first | fail "W" | fail "R"))
  refine gL AQ0.q.hl (by omega) (itemAt_nat (mapGet xb)) ?_
  (repeat' (first | fail "W" | fail "R"))
  refine Mine.ex3 (AQ0.W.at (l := 0) (by decide)) fun b0 e0 x0 g0 => ?_
  refine gL AQ0.W.hw (by decide) (itemAt_of (by decide) e0) ?_
  (repeat' (first | fail "W" | fail "R"))
  refine gL g0 (by omega) (itemAt_nat (wordsL_get xb)) ?_
  (repeat' (first | fail "W" | fail "R"))
  refine rApp AQ0.k (by rw [al']; omega) ?_
  have AQ1 := AQ0.plain xb
  have k1l : (ks ++ [(laid.getD x 0).toNat]).length ≤ 17 := by simp; omega
  generalize AH.set Hb ak _ = H1 at AQ1 ⊢
  generalize ks ++ [(laid.getD x 0).toNat] = ks1 at AQ1 k1l
  clear AQ0 g0 e0 x0 klen
  (repeat' (first | fail "W" | fail "R"))
  refine mApp AQ1.k ?_
  (repeat' (first | fail "W" | fail "R"))
  refine gL AQ1.q.hl (by omega) (itemAt_nat (mapGet jb)) ?_
  (repeat' (first | fail "W" | fail "R"))
  refine Mine.ex3 (AQ1.W.at (l := 0) (by decide)) fun b1 e0 x0 g0 => ?_
  refine gL AQ1.W.hw (by decide) (itemAt_of (by decide) e0) ?_
  (repeat' (first | fail "W" | fail "R"))
  refine gL g0 (by omega) (itemAt_nat (wordsL_get jb)) ?_
  (repeat' (first | fail "W" | fail "R"))
  refine rApp AQ1.k (by rw [al']; omega) ?_
  have AQ2 := AQ1.plain jb
  have k2l : (ks1 ++ [(laid.getD j 0).toNat]).length ≤ 18 := by simp; omega
  generalize AH.set H1 ak _ = H2 at AQ2 ⊢
  generalize ks1 ++ [(laid.getD j 0).toNat] = ks2 at AQ2 k2l
  clear AQ1 g0 e0 x0 k1l
  (repeat' (first | fail "W" | fail "R"))
  refine mApp AQ2.k ?_
  (repeat' (first | fail "W" | fail "R"))
  refine gL (AQ2.S _ _ B2 nva) (by decide) (itemAt_of (by decide) q0) ?_
  (repeat' (first | fail "W" | fail "R"))
  refine bDI (by decide) ?_
  (repeat' (first | fail "W" | fail "R"))
  refine bMI (by decide) ?_
  (repeat' (first | fail "W" | fail "R"))
  refine cUse (wrapped_law G ho AQ2.q AQ2.L0 AQ2.ex AQ2.W AQ2.N AQ2.an' AQ2.nmok (by omega) (by omega) (by omega)) (by decide) ?_
  intro r3 H3 hw3
  refine AQ2.el hw3 fun g3 T3 k3 AQ3 ex3 len3 => ?_
  have k3l : (ks2 ++ [k3]).length ≤ 19 := by simp; omega
  (repeat' (first | fail "W" | fail "R"))
  refine rApp g3 (by rw [al']; omega) ?_
  generalize AH.set H3 ak _ = H4 at AQ3 ⊢
  generalize ks2 ++ [k3] = ks3 at AQ3 k3l
  have len3' : T3.rows.length ≤ 74 := by omega
  clear AQ2 hw3 g3 k2l
  (repeat' (first | fail "W" | fail "R"))
  refine mApp AQ3.k ?_
  (repeat' (first | fail "W" | fail "R"))
  refine gL (AQ3.S _ _ B2 nva) (by decide) (itemAt_of (by decide) q0) ?_
  (repeat' (first | fail "W" | fail "R"))
  refine bDI (by decide) ?_
  (repeat' (first | fail "W" | fail "R"))
  refine bMI (by decide) ?_
  (repeat' (first | fail "W" | fail "R"))
  refine gL (AQ3.S _ _ B1 nsa) (by omega) (itemAt_m2 (i := spine.length - 2) (by rw [List.length_map]; omega) (natL_get hy)) ?_
  (repeat' (first | fail "W" | fail "R"))
  refine cUse (wrapped_law G ho AQ3.q AQ3.L0 AQ3.ex AQ3.W AQ3.N AQ3.an' AQ3.nmok (by omega) (by omega) (by omega)) (by decide) ?_
  intro r5 H5 hw5
  refine AQ3.el hw5 fun g5 T5 k5 AQ5 ex5 len5 => ?_
  have k5l : (ks3 ++ [k5]).length ≤ 20 := by simp; omega
  (repeat' (first | fail "W" | fail "R"))
  refine rApp g5 (by rw [al']; omega) ?_
  generalize AH.set H5 ak _ = H6 at AQ5 ⊢
  generalize ks3 ++ [k5] = ks5 at AQ5 k5l
  have len5' : T5.rows.length ≤ 76 := by omega
  clear AQ3 hw5 g5 k3l len3 len5
  (repeat' (first | fail "W" | fail "R"))
  refine mApp AQ5.k ?_
  (repeat' (first | fail "W" | fail "R"))
  refine gL (AQ5.S _ _ B1 nsa) (by decide) (itemAt_of (by decide) (natL_get hz)) ?_
  (repeat' (first | fail "W" | fail "R"))
  refine gL (AQ5.S _ _ B2 nva) (by decide) (itemAt_of (by decide) q1) ?_
  (repeat' (first | fail "W" | fail "R"))
  refine bDI (by decide) ?_
  (repeat' (first | fail "W" | fail "R"))
  refine bMI (by decide) ?_
  have h3 : 0 ≤ v1 / 70 % 3 ∧ v1 / 70 % 3 < 3 := by omega
  refine Mine.ex2 (pick3 (f : Int) (z : Int) h3) fun args hargs hcase => ?_
  refine gT (by omega) (itemAt_of h3.1 hargs) ?_
  (repeat' (first | fail "W" | fail "R"))
  refine gL (AQ5.S _ _ B2 nva) (by decide) (itemAt_of (by decide) q2) ?_
  (repeat' (first | fail "W" | fail "R"))
  refine bMI (by decide) ?_
  (repeat' (first | fail "W" | fail "R"))
  have ex05 : Ext T T5 := AQ5.ex
  have pp := ptr_parts (AQ5.q.arg (j := (x : Int)) (by omega)) (af.to LT ex05) (az.to LT ex05) hcase
  refine cUse (pointer_law G ho AQ5.q AQ5.L0 AQ5.ex AQ5.W AQ5.nmok (by omega) pp (m := v2 % 9) (md_mids _)) (by decide) ?_
  intro r7 H7 hw7
  refine AQ5.el hw7 fun g7 T7 k7 AQ7 ex7 len7 => ?_
  (repeat' (first | fail "W" | fail "R"))
  refine rApp g7 (by rw [al']; omega) ?_
  generalize AH.set H7 ak _ = H8 at AQ7 ⊢
  have k7l : (ks5 ++ [k7]).length ≤ 21 ∧ 0 < (ks5 ++ [k7]).length := by simp; omega
  generalize ks5 ++ [k7] = ks7 at AQ7 k7l
  have len7' : T7.rows.length ≤ 78 := by omega
  clear AQ5 hw7 g7 k5l len7 pp hargs hcase h3 ex05 af az
  have grow := AQ7.S _ _ B3 nra
  have gv7 := AQ7.S _ _ B2 nva
  clear B1 B2 B3 nsa nva nra
  (repeat' (first | fail "W" | fail "R"))
  refine itL AQ7.k ?_
  refine loopI (I := fun i m H' => Same [] H8 H' ∧ ∃ l2, ((i = 0 ∧ l2 = []) ∨ ∃ u1 u2, l2 = [("k", u1), ("text", u2)]) ∧ m = L ([("script", .val (.ref c0)), ("tail", tl), ("v", .val (.ref cv)), ("kt", .val (.ref a)), ("laid", .val (.ref al)), ("rows", .val (.ref ar)), ("spine", .val (.ref sp)), ("n", u), ("last", .int (x : Int)), ("j", .int (j : Int)), ("half", .int (f : Int)), ("names", .val (.ref an)), ("words", .val (.ref w)), ("asks", .val (.ref ak))] ++ l2))
    ⟨Same.refl _ _, [], .inl ⟨rfl, rfl⟩, rfl⟩ (fun i m H' _ hI => hI.1 _ _ AQ7.k (by first | exact nil_out | exact fun _ _ => nil_out | exact fun _ h => (nil_out h).elim | exact fun e => AObj.noConfusion e | exact mem_at 0 rfl | exact mem_at 1 rfl | exact mem_at 2 rfl | exact mem_at 3 rfl | exact mem_at 4 rfl | exact mem_at 5 rfl | exact mem_at 6 rfl | exact mem_at 7 rfl | exact mem_at 8 rfl | exact mem_at 9 rfl | simp)) ?_ ?_
  · rintro i q m H' K' hq ⟨S', l2, hl2, rfl⟩ kn _
    unfold asksL at hq
    rw [List.getElem?_map] at hq
    obtain ⟨k, hk, rfl⟩ := Option.map_eq_some_iff.mp hq
    have kb := AQ7.ks' k (List.mem_of_getElem? hk)
    have q7 := AQ7.q.same S' (by first | exact nil_out | exact fun _ _ => nil_out | exact fun _ h => (nil_out h).elim | exact fun e => AObj.noConfusion e | exact mem_at 0 rfl | exact mem_at 1 rfl | exact mem_at 2 rfl | exact mem_at 3 rfl | exact mem_at 4 rfl | exact mem_at 5 rfl | exact mem_at 6 rfl | exact mem_at 7 rfl | exact mem_at 8 rfl | exact mem_at 9 rfl | simp)
    refine aTup (nsC (l' := [("script", .val (.ref c0)), ("tail", tl), ("v", .val (.ref cv)), ("kt", .val (.ref a)), ("laid", .val (.ref al)), ("rows", .val (.ref ar)), ("spine", .val (.ref sp)), ("n", u), ("last", .int (x : Int)), ("j", .int (j : Int)), ("half", .int (f : Int)), ("names", .val (.ref an)), ("words", .val (.ref w)), ("asks", .val (.ref ak)), ("k", .int (k : Int))] ++ l2.drop 1) (by (first | decide +kernel | (subst_vars; decide +kernel))) (by rcases hl2 with ⟨_, rfl⟩ | ⟨u1, u2, rfl⟩ <;> simp [upd])
      (nsC (l' := [("script", .val (.ref c0)), ("tail", tl), ("v", .val (.ref cv)), ("kt", .val (.ref a)), ("laid", .val (.ref al)), ("rows", .val (.ref ar)), ("spine", .val (.ref sp)), ("n", u), ("last", .int (x : Int)), ("j", .int (j : Int)), ("half", .int (f : Int)), ("names", .val (.ref an)), ("words", .val (.ref w)), ("asks", .val (.ref ak)), ("k", .int (k : Int)), ("text", .str (TX nm T7.rows (k : Int) 0))]) (by (first | decide +kernel | (subst_vars; decide +kernel))) (by rcases hl2 with ⟨_, rfl⟩ | ⟨u1, u2, rfl⟩ <;> simp [upd]) (ns0 ?_)))
    (repeat' (first | fail "W" | fail "R"))
    refine cUse (kind_at G ho q7.K q7.L.ok (by omega) (S' _ _ AQ7.N (by first | exact nil_out | exact fun _ _ => nil_out | exact fun _ h => (nil_out h).elim | exact fun e => AObj.noConfusion e | exact mem_at 0 rfl | exact mem_at 1 rfl | exact mem_at 2 rfl | exact mem_at 3 rfl | exact mem_at 4 rfl | exact mem_at 5 rfl | exact mem_at 6 rfl | exact mem_at 7 rfl | exact mem_at 8 rfl | exact mem_at 9 rfl | simp)) AQ7.nmok (k := (k : Int)) (by omega) (by rw [Int.toNat_natCast]; exact kb)) (by decide) (elB fun H9 S9 => ?_)
    (repeat' (first | fail "W" | fail "R"))
    · exact absurd rfl (by assumption)
    · exact kn _ _ ⟨S'.trans S9, [("k", _), ("text", _)], .inr ⟨_, _, rfl⟩, rfl⟩
  rintro m H9 ⟨S9, l2, hl2, rfl⟩
  obtain ⟨u1, u2, rfl⟩ : ∃ u1 u2, l2 = [("k", u1), ("text", u2)] := hl2.elim (fun h => by rw [al'] at h; omega) id
  have q9 := AQ7.q.same S9 (by first | exact nil_out | exact fun _ _ => nil_out | exact fun _ h => (nil_out h).elim | exact fun e => AObj.noConfusion e | exact mem_at 0 rfl | exact mem_at 1 rfl | exact mem_at 2 rfl | exact mem_at 3 rfl | exact mem_at 4 rfl | exact mem_at 5 rfl | exact mem_at 6 rfl | exact mem_at 7 rfl | exact mem_at 8 rfl | exact mem_at 9 rfl | simp)
  have gv9 := S9 _ _ gv7 (by first | exact nil_out | exact fun _ _ => nil_out | exact fun _ h => (nil_out h).elim | exact fun e => AObj.noConfusion e | exact mem_at 0 rfl | exact mem_at 1 rfl | exact mem_at 2 rfl | exact mem_at 3 rfl | exact mem_at 4 rfl | exact mem_at 5 rfl | exact mem_at 6 rfl | exact mem_at 7 rfl | exact mem_at 8 rfl | exact mem_at 9 rfl | simp)
  have gr9 := S9 _ _ grow (by first | exact nil_out | exact fun _ _ => nil_out | exact fun _ h => (nil_out h).elim | exact fun e => AObj.noConfusion e | exact mem_at 0 rfl | exact mem_at 1 rfl | exact mem_at 2 rfl | exact mem_at 3 rfl | exact mem_at 4 rfl | exact mem_at 5 rfl | exact mem_at 6 rfl | exact mem_at 7 rfl | exact mem_at 8 rfl | exact mem_at 9 rfl | simp)
  clear AQ7 S9 gv7 grow hl2
  dsimp only [List.cons_append, List.nil_append]
  (repeat' (first | fail "W" | fail "R"))
  refine gL gv9 (by decide) (itemAt_of (by decide) q0) ?_
  (repeat' (first | fail "W" | fail "R"))
  refine bDI (by decide) ?_
  (repeat' (first | fail "W" | fail "R"))
  refine bMI (by decide) ?_
  (repeat' (first | fail "W" | fail "R"))
  refine gL gv9 (by decide) (itemAt_of (by decide) q0) ?_
  (repeat' (first | fail "W" | fail "R"))
  refine bDI (by decide) ?_
  (repeat' (first | fail "W" | fail "R"))
  refine bMI (by decide) ?_
  (repeat' (first | fail "W" | fail "R"))
  refine cUse (names_law G ho _ _) (by decide) (namesEl fun an2 nm2 jn2 H10 han2 gan2 nmok2 S10 => ?_)
  have q10 := q9.same S10 (by first | exact nil_out | exact fun _ _ => nil_out | exact fun _ h => (nil_out h).elim | exact fun e => AObj.noConfusion e | exact mem_at 0 rfl | exact mem_at 1 rfl | exact mem_at 2 rfl | exact mem_at 3 rfl | exact mem_at 4 rfl | exact mem_at 5 rfl | exact mem_at 6 rfl | exact mem_at 7 rfl | exact mem_at 8 rfl | exact mem_at 9 rfl | simp)
  (repeat' (first | fail "W" | fail "R"))
  refine cUse (words_law G ho q10.L (S10 _ _ gr9 (by first | exact nil_out | exact fun _ _ => nil_out | exact fun _ h => (nil_out h).elim | exact fun e => AObj.noConfusion e | exact mem_at 0 rfl | exact mem_at 1 rfl | exact mem_at 2 rfl | exact mem_at 3 rfl | exact mem_at 4 rfl | exact mem_at 5 rfl | exact mem_at 6 rfl | exact mem_at 7 rfl | exact mem_at 8 rfl | exact mem_at 9 rfl | simp)) gan2 nmok2) (by decide) (wordsEl fun w2 ws2 H11 hw2 gw2 wlen2 wrow2 S11 => ?_)
  have q11 := q10.same S11 (by first | exact nil_out | exact fun _ _ => nil_out | exact fun _ h => (nil_out h).elim | exact fun e => AObj.noConfusion e | exact mem_at 0 rfl | exact mem_at 1 rfl | exact mem_at 2 rfl | exact mem_at 3 rfl | exact mem_at 4 rfl | exact mem_at 5 rfl | exact mem_at 6 rfl | exact mem_at 7 rfl | exact mem_at 8 rfl | exact mem_at 9 rfl | simp)
  have W11 : WD H11 w2 nm2 T7 laid [A.r, A.i, A.p, A.w, A.o] ws2 := WD.mk' q10.K hw2 gw2 wlen2 wrow2
  have gan11 := S11 _ _ gan2 (by first | exact nil_out | exact fun _ _ => nil_out | exact fun _ h => (nil_out h).elim | exact fun e => AObj.noConfusion e | exact mem_at 0 rfl | exact mem_at 1 rfl | exact mem_at 2 rfl | exact mem_at 3 rfl | exact mem_at 4 rfl | exact mem_at 5 rfl | exact mem_at 6 rfl | exact mem_at 7 rfl | exact mem_at 8 rfl | exact mem_at 9 rfl | simp)
  refine Mine.ex3 (W11.at (l := 0) (by decide)) fun b0 e0 _ g0 => ?_
  have gw11 := W11.hw
  clear W11 S11 S10 q10 q9 hw2 gw2 wlen2 wrow2 gan2 han2 gv9 gr9
  have x0 := (q11.L.lt xb).1
  have xl := (q11.L.lt xb).2
  have j0 := (q11.L.lt jb).1
  have jl := (q11.L.lt jb).2
  (repeat' (first | fail "W" | fail "R"))
  refine gL q11.hl (by omega) (itemAt_nat (mapGet xb)) ?_
  (repeat' (first | fail "W" | fail "R"))
  refine cUse (kind_at G ho q11.K q11.L.ok (by omega) gan11 nmok2 x0 xl) (by decide) (elB fun H12 S12 => ?_)
  have q12 := q11.same S12 (by first | exact nil_out | exact fun _ _ => nil_out | exact fun _ h => (nil_out h).elim | exact fun e => AObj.noConfusion e | exact mem_at 0 rfl | exact mem_at 1 rfl | exact mem_at 2 rfl | exact mem_at 3 rfl | exact mem_at 4 rfl | exact mem_at 5 rfl | exact mem_at 6 rfl | exact mem_at 7 rfl | exact mem_at 8 rfl | exact mem_at 9 rfl | simp)
  have gan12 := S12 _ _ gan11 (by first | exact nil_out | exact fun _ _ => nil_out | exact fun _ h => (nil_out h).elim | exact fun e => AObj.noConfusion e | exact mem_at 0 rfl | exact mem_at 1 rfl | exact mem_at 2 rfl | exact mem_at 3 rfl | exact mem_at 4 rfl | exact mem_at 5 rfl | exact mem_at 6 rfl | exact mem_at 7 rfl | exact mem_at 8 rfl | exact mem_at 9 rfl | simp)
  have g012 := S12 _ _ g0 (by first | exact nil_out | exact fun _ _ => nil_out | exact fun _ h => (nil_out h).elim | exact fun e => AObj.noConfusion e | exact mem_at 0 rfl | exact mem_at 1 rfl | exact mem_at 2 rfl | exact mem_at 3 rfl | exact mem_at 4 rfl | exact mem_at 5 rfl | exact mem_at 6 rfl | exact mem_at 7 rfl | exact mem_at 8 rfl | exact mem_at 9 rfl | simp)
  have gw12 := S12 _ _ gw11 (by first | exact nil_out | exact fun _ _ => nil_out | exact fun _ h => (nil_out h).elim | exact fun e => AObj.noConfusion e | exact mem_at 0 rfl | exact mem_at 1 rfl | exact mem_at 2 rfl | exact mem_at 3 rfl | exact mem_at 4 rfl | exact mem_at 5 rfl | exact mem_at 6 rfl | exact mem_at 7 rfl | exact mem_at 8 rfl | exact mem_at 9 rfl | simp)
  clear q11 gan11 g0 gw11 S12
  (repeat' (first | fail "W" | fail "R"))
  refine gL gw12 (by decide) (itemAt_of (by decide) e0) ?_
  (repeat' (first | fail "W" | fail "R"))
  refine gL g012 (by omega) (itemAt_nat (wordsL_get xb)) ?_
  (repeat' (first | fail "W" | fail "R"))
  · refine gL q12.hl (by omega) (itemAt_nat (mapGet jb)) ?_
    (repeat' (first | fail "W" | fail "R"))
    refine cUse (kind_at G ho q12.K q12.L.ok (by omega) gan12 nmok2 j0 jl) (by decide) (elB fun H13 S13 => ?_)
    (repeat' (first | fail "W" | fail "R"))
    refine gL (S13 _ _ gw12 (by first | exact nil_out | exact fun _ _ => nil_out | exact fun _ h => (nil_out h).elim | exact fun e => AObj.noConfusion e | exact mem_at 0 rfl | exact mem_at 1 rfl | exact mem_at 2 rfl | exact mem_at 3 rfl | exact mem_at 4 rfl | exact mem_at 5 rfl | exact mem_at 6 rfl | exact mem_at 7 rfl | exact mem_at 8 rfl | exact mem_at 9 rfl | simp)) (by decide) (itemAt_of (by decide) e0) ?_
    (repeat' (first | fail "W" | fail "R"))
    refine gL (S13 _ _ g012 (by first | exact nil_out | exact fun _ _ => nil_out | exact fun _ h => (nil_out h).elim | exact fun e => AObj.noConfusion e | exact mem_at 0 rfl | exact mem_at 1 rfl | exact mem_at 2 rfl | exact mem_at 3 rfl | exact mem_at 4 rfl | exact mem_at 5 rfl | exact mem_at 6 rfl | exact mem_at 7 rfl | exact mem_at 8 rfl | exact mem_at 9 rfl | simp)) (by omega) (itemAt_nat (wordsL_get jb)) ?_
    (repeat' (first | fail "W" | fail "R"))
    simp
  · exact absurd rfl (by assumption)
end
end
section
open PySem PySem.W PySem.Calls PyProof.Rows
open scoped Classical

section
variable {C : Ctx} {p : Params} {mg mb : PySem.Str → Option Value}

theorem law_aw (G : Good C mg mb) (ho : Our C p) {sa : Addr} {xs : List Int} (hF : C.FL sa = some (xs.map .int)) (hx : xs.length ≤ 63) :
    ∀ fd body, lawFd p = some fd → fd.body = .stmts body → awSs C 400 body fd.scope (L [("script", .val (.ref sa))]) (fun _ => none) (retQ fun q _ => q = .bool true) := by
  refine law_start (P := fun body sc => awSs C 400 body sc (L [("script", .val (.ref sa))]) (fun _ => none) (retQ fun q _ => q = .bool true)) rfl rfl rfl fun sc hsc => ?_
  dsimp only at hsc ⊢
  (repeat' (first | fail "W" | fail "R"))
  refine lUp (.inr hF) ⟨by decide, by rw [List.length_map]; omega⟩ fun c0 _ => ?_
  have g0 : (AH.set (fun _ => none) c0 (.list ((xs.map PV.int).take (16 : Int).toNat))) c0 = some (.list ((xs.map PV.int).take 16)) := hset
  generalize AH.set (fun _ => none) c0 (.list ((xs.map PV.int).take (16 : Int).toNat)) = H0 at g0 ⊢
  have l0 : ((xs.map PV.int).take 16).length ≤ 16 := by rw [List.length_take]; omega
  have y0 : ∀ q ∈ (xs.map PV.int).take 16, ∃ n, q = .int n := fun q hq => by
    obtain ⟨n, _, rfl⟩ := List.mem_map.mp (List.mem_of_mem_take hq)
    exact ⟨n, rfl⟩
  obtain ⟨vs, hv, hvl, hvb⟩ := vals_ok xs
  generalize (xs.map PV.int).take 16 = ys at g0 l0 hv y0
  (repeat' (first | fail "W" | fail "R"))
  refine itL g0 ?_
  refine ⟨by omega, ?_⟩
  refine compM (f := fun p => .int (unI p % 99991)) g0 ?_ ?_
  · intro pv K3 hpv kk
    obtain ⟨n, rfl⟩ := y0 pv hpv
    (repeat (first | rw [freeL_neg (by decide +kernel)] | rw [freeL_pos (by decide +kernel)]))
    rw [freeL_nil]
    (repeat' (first | fail "W" | fail "R"))
    refine bMI (by decide) ?_
    exact kk
  intro c1 h1
  have n01 : c0 ≠ c1 := ne_fresh g0 h1
  (repeat' (first | fail "W" | fail "R"))
  refine fLenL (hset_ne n01 g0) (by omega) ?_
  (repeat' (first | fail "W" | fail "R"))
  refine lTup (l := tailI.map PV.int) ⟨by omega, by show (ys.length : Int) ≤ 16; omega, by decide⟩ ?_
  refine itT ?_
  have dl : ((tailI.map PV.int).drop ((ys.length : Int)).toNat).length ≤ 1000 := by rw [List.length_drop, List.length_map]; show 16 - _ ≤ 1000; omega
  refine ⟨dl, ?_⟩
  refine compM (f := fun p => .int (unI p)) trivial ?_ ?_
  · intro pv K3 hpv kk
    obtain ⟨n, _, rfl⟩ := List.mem_map.mp (List.mem_of_mem_drop hpv)
    (repeat (first | rw [freeL_neg (by decide +kernel)] | rw [freeL_pos (by decide +kernel)]))
    rw [freeL_nil]
    (repeat' (first | fail "W" | fail "R"))
    exact kk
  intro c2 h2
  rw [Int.toNat_natCast]
  have g1 : (H0.set c1 (.list (ys.map fun p => .int (unI p % 99991)))) c1 = _ := hset
  have n12 : c1 ≠ c2 := ne_fresh g1 h2
  refine bAL (hset_ne n12 g1) hset (by have := congrArg List.length hv; rw [List.length_append] at this; rw [this, List.length_map]; omega) fun cv hcv => ?_
  rw [hv]
  have gv : ((((H0.set c1 (.list (ys.map fun p => .int (unI p % 99991)))).set c2 (.list (((tailI.map PV.int).drop ys.length).map fun p => .int (unI p)))).set cv (.list (vs.map PV.int)))) cv = some (.list (vs.map PV.int)) := hset
  generalize (((H0.set c1 (.list (ys.map fun p => .int (unI p % 99991)))).set c2 (.list (((tailI.map PV.int).drop ys.length).map fun p => .int (unI p)))).set cv (.list (vs.map PV.int))) = H1 at gv ⊢
  clear h1 h2 hcv g1 n12 n01 g0 hv y0 l0 dl
  (repeat' (first | fail "W" | fail "R"))
  refine ((new_table G ho).mono (n' := 400) (by omega)).weaken (tableEl fun a A T H2 K hT hrows S2 hfr => ?_)
  have gv2 := S2 _ _ gv (by first | exact nil_out | exact fun _ _ => nil_out | exact fun _ h => (nil_out h).elim | exact fun e => AObj.noConfusion e | exact mem_at 0 rfl | exact mem_at 1 rfl | exact mem_at 2 rfl | exact mem_at 3 rfl | exact mem_at 4 rfl | exact mem_at 5 rfl | exact mem_at 6 rfl | exact mem_at 7 rfl | exact mem_at 8 rfl | exact mem_at 9 rfl | simp)
  have cvo : cv ∉ [a, A.d, A.r, A.i, A.p, A.w, A.o] := fun q => by have := hfr _ q; rw [gv] at this; cases this
  clear hfr S2 gv H1
  (repeat' (first | fail "W" | fail "R"))
  intro al hal
  have lal := K.out hal
  have nv1 : cv ≠ al := ne_fresh gv2 hal
  have K1 := K.same (Same.fresh (o := .list []) hal) (by first | exact nil_out | exact fun _ _ => nil_out | exact fun _ h => (nil_out h).elim | exact fun e => AObj.noConfusion e | exact mem_at 0 rfl | exact mem_at 1 rfl | exact mem_at 2 rfl | exact mem_at 3 rfl | exact mem_at 4 rfl | exact mem_at 5 rfl | exact mem_at 6 rfl | exact mem_at 7 rfl | exact mem_at 8 rfl | exact mem_at 9 rfl | simp)
  have gv3 := hset_ne (o := .list []) nv1 gv2
  have gal : (H2.set al (.list [])) al = some (.list []) := hset
  generalize H2.set al (.list []) = H3 at K1 gv3 gal ⊢
  clear K gv2 hal
  (repeat' (first | fail "W" | fail "R"))
  intro ar har
  have lar := K1.out har
  have nv2 : cv ≠ ar := ne_fresh gv3 har
  have naa : al ≠ ar := ne_fresh gal har
  have gal4 := hset_ne (o := .list []) naa gal
  have gv4 := hset_ne (o := .list []) nv2 gv3
  have K4 := K1.same (Same.fresh (o := .list []) har) (by first | exact nil_out | exact fun _ _ => nil_out | exact fun _ h => (nil_out h).elim | exact fun e => AObj.noConfusion e | exact mem_at 0 rfl | exact mem_at 1 rfl | exact mem_at 2 rfl | exact mem_at 3 rfl | exact mem_at 4 rfl | exact mem_at 5 rfl | exact mem_at 6 rfl | exact mem_at 7 rfl | exact mem_at 8 rfl | exact mem_at 9 rfl | simp)
  have LS0 : LS C (H3.set ar (.list [])) a A T al ar [] [] := by
    refine ⟨K4, ⟨hT, rfl, by simp, fun k hk => (nomatch hk), fun j x hj => by simp at hj⟩, by rw [hrows]; simp, gal4, hset, fun b hb => ⟨fun e => lal (e ▸ hb), fun e => lar (e ▸ hb)⟩, naa, pb_of hrows⟩
  generalize H3.set ar (.list []) = H4 at LS0 gv4 ⊢
  clear K1 K4 gal gal4 gv3 har
  have out7 : cv ∉ [A.r, A.i, A.p, A.w, A.o, al, ar] := out_at [2, 3, 4, 5, 6] [al, ar] rfl cvo (out_cons nv1 (out_sing nv2))
  refine Mine.ex2 (val_at hvl hvb (i := 0) (by decide)) fun v0 q0 v0b => ?_
  refine Mine.ex2 (val_at hvl hvb (i := 1) (by decide)) fun v1 q1 v1b => ?_
  refine Mine.ex2 (val_at hvl hvb (i := 2) (by decide)) fun v2 q2 v2b => ?_
  (repeat' (first | fail "W" | fail "R"))
  refine gL gv4 (by decide) (itemAt_of (by decide) q1) ?_
  (repeat' (first | fail "W" | fail "R"))
  refine cUse (leaf_law G ho LS0 (by first | exact nil_out | exact fun _ _ => nil_out | exact fun _ h => (nil_out h).elim | exact fun e => AObj.noConfusion e | exact mem_at 0 rfl | exact mem_at 1 rfl | exact mem_at 2 rfl | exact mem_at 3 rfl | exact mem_at 4 rfl | exact mem_at 5 rfl | exact mem_at 6 rfl | exact mem_at 7 rfl | exact mem_at 8 rfl | exact mem_at 9 rfl | simp) v1b) (by decide) (LeafP.el fun T1 k1 x1 H5 LS1 ex1 w1 d1 S5 => ?_)
  have gv5 := S5 _ _ gv4 out7
  (repeat' (first | fail "W" | fail "R"))
  refine gL gv5 (by decide) (itemAt_of (by decide) q2) ?_
  (repeat' (first | fail "W" | fail "R"))
  refine cUse (leaf_law G ho LS1 (by first | exact nil_out | exact fun _ _ => nil_out | exact fun _ h => (nil_out h).elim | exact fun e => AObj.noConfusion e | exact mem_at 0 rfl | exact mem_at 1 rfl | exact mem_at 2 rfl | exact mem_at 3 rfl | exact mem_at 4 rfl | exact mem_at 5 rfl | exact mem_at 6 rfl | exact mem_at 7 rfl | exact mem_at 8 rfl | exact mem_at 9 rfl | simp) v2b) (by decide) (LeafP.el fun T2 k2 x2 H6 LS2 ex2 w2 d2 S6 => ?_)
  have gv6 := S6 _ _ gv5 out7
  rw [List.nil_append] at LS1
  have SP0 : SP T2 [k1, k2] [0, 1] := sp_start LS1.L ex2 w1 d1 w2 d2
  simp only [List.nil_append, List.cons_append] at LS2
  clear LS1 LS0 gv5 gv4 S5 S6 w1 d1 w2 d2 ex2 ex1
  (repeat' (first | fail "W" | fail "R"))
  intro sp hsp
  have nvs : cv ≠ sp := ne_fresh gv6 hsp
  have lsp : sp ∉ [a, A.d, A.r, A.i, A.p, A.w, A.o, al, ar] := out_at [0, 1, 2, 3, 4, 5, 6] [al, ar] rfl (LS2.K.out hsp) (out_cons (ne_fresh LS2.hl hsp).symm (out_sing (ne_fresh LS2.hr hsp).symm))
  have gsp : (H6.set sp (.list [.int (([] : List Int).length : Int), .int (([] ++ [k1] : List Int).length : Int)])) sp = some (.list (([0, 1] : List Nat).map fun (q : Nat) => .int (q : Int))) := hset
  have LS3 := LS2.fresh hsp (.list [.int (([] : List Int).length : Int), .int (([] ++ [k1] : List Int).length : Int)])
  have gv7 := hset_ne (o := .list [.int (([] : List Int).length : Int), .int (([] ++ [k1] : List Int).length : Int)]) nvs gv6
  generalize H6.set sp (.list [.int (([] : List Int).length : Int), .int (([] ++ [k1] : List Int).length : Int)]) = H7 at gsp LS3 gv7 ⊢
  clear LS2 gv6 hsp
  generalize [k1, k2] = laid at LS3 SP0
  generalize [x1, x2] = nodes at LS3
  (repeat' (first | fail "W" | fail "R"))
  refine gL gv7 (by decide) (itemAt_of (by decide) q0) ?_
  (repeat' (first | fail "W" | fail "R"))
  refine bMI (by decide) ?_
  (repeat' (first | fail "W" | fail "R"))
  refine lRun gv7 (by rw [List.length_map]; omega) fun cs hcs => ?_
  have hit : (((vs.map PV.int).drop (3 : Int).toNat).take ((13 + v0 % 4).toNat - (3 : Int).toNat)).length = (10 + v0 % 4).toNat := by
    rw [List.length_take, List.length_drop, List.length_map, hvl]
    exact md_min v0
  have hie : ∀ q ∈ (((vs.map PV.int).drop (3 : Int).toNat).take ((13 + v0 % 4).toNat - (3 : Int).toNat)), ∃ n, q = PV.int n ∧ 0 ≤ n ∧ n < 100000 := fun q hq => by
    obtain ⟨n, hn, rfl⟩ := List.mem_map.mp (List.mem_of_mem_drop (List.mem_of_mem_take hq))
    exact ⟨n, rfl, hvb n hn⟩
  have gcs : (H7.set cs (.list (((vs.map PV.int).drop (3 : Int).toNat).take ((13 + v0 % 4).toNat - (3 : Int).toNat)))) cs = _ := hset
  have LS4 := LS3.fresh hcs (.list (((vs.map PV.int).drop (3 : Int).toNat).take ((13 + v0 % 4).toNat - (3 : Int).toNat)))
  have gv8 := hset_ne (o := .list (((vs.map PV.int).drop (3 : Int).toNat).take ((13 + v0 % 4).toNat - (3 : Int).toNat))) (ne_fresh gv7 hcs) gv7
  have gsp8 := hset_ne (o := .list (((vs.map PV.int).drop (3 : Int).toNat).take ((13 + v0 % 4).toNat - (3 : Int).toNat))) (ne_fresh gsp hcs) gsp
  have lcs : cs ∉ [A.r, A.i, A.p, A.w, A.o, al, ar, sp] := out_at [2, 3, 4, 5, 6] [al, ar, sp] rfl (LS3.K.out hcs) (out_cons (ne_fresh LS3.hl hcs).symm (out_cons (ne_fresh LS3.hr hcs).symm (out_sing (ne_fresh gsp hcs).symm)))
  generalize H7.set cs (.list (((vs.map PV.int).drop (3 : Int).toNat).take ((13 + v0 % 4).toNat - (3 : Int).toNat))) = H8 at gcs LS4 gv8 gsp8 ⊢
  generalize ((vs.map PV.int).drop (3 : Int).toNat).take ((13 + v0 % 4).toNat - (3 : Int).toNat) = its at hit hie gcs ⊢
  clear LS3 gv7 gsp hcs hvb
  have lcv : cv ∉ [A.r, A.i, A.p, A.w, A.o, al, ar, sp] := out_at [0, 1, 2, 3, 4, 5, 6] [sp] rfl out7 (out_sing nvs)
  refine itL gcs ?_
  refine loopI (I := fun i m H' => ∃ T laid nodes spine l2, LS C H' a A T al ar laid nodes ∧ SP T laid spine ∧ spine.length = 2 + i ∧ H' sp = some (.list (spine.map fun (q : Nat) => .int (q : Int))) ∧ Same [A.r, A.i, A.p, A.w, A.o, al, ar, sp] H8 H' ∧
      ((i = 0 ∧ l2 = []) ∨ ∃ u, l2 = [("n", u)]) ∧
      m = L ([("script", .val (.ref c0)), ("tail", .tup (tailI.map PV.int)), ("v", .val (.ref cv)), ("kt", .val (.ref a)), ("laid", .val (.ref al)), ("rows", .val (.ref ar)), ("spine", .val (.ref sp))] ++ l2))
    ⟨T2, laid, nodes, [0, 1], [], LS4, SP0, rfl, gsp8, Same.refl _ _, .inl ⟨rfl, rfl⟩, rfl⟩ (fun i m H' _ hI => by obtain ⟨_, _, _, _, _, _, _, _, _, s, _⟩ := hI; exact s _ _ gcs lcs) ?_ ?_
  · rintro i q m H' K' hq ⟨T', laid', nodes', spine, l2, LSi, SPi, sl, gspi, Si, hl2, rfl⟩ kn _
    have hil := (List.getElem?_eq_some_iff.mp hq).1
    obtain ⟨n, rfl, nb⟩ := hie q (List.mem_of_getElem? hq)
    refine aName (l' := [("script", .val (.ref c0)), ("tail", .tup (tailI.map PV.int)), ("v", .val (.ref cv)), ("kt", .val (.ref a)), ("laid", .val (.ref al)), ("rows", .val (.ref ar)), ("spine", .val (.ref sp)), ("n", .int n)]) (by (first | decide +kernel | (subst_vars; decide +kernel))) (by rcases hl2 with ⟨_, rfl⟩ | ⟨u, rfl⟩ <;> simp [upd]) ?_
    (repeat' (first | fail "W" | fail "R"))
    refine cUse (step_law G ho LSi gspi lsp SPi (by omega) nb) (by decide) (StepP.el fun T9 laid9 nodes9 s9 H9 LS9 gsp9 SP9 ex9 S9 => ?_)
    (repeat' (first | fail "W" | fail "R"))
    exact kn _ _ ⟨T9, laid9, nodes9, spine ++ [s9], [("n", _)], LS9, SP9, by simp; omega, gsp9, Si.trans S9, .inr ⟨_, rfl⟩, rfl⟩
  rintro m H9 ⟨T3, laid3, nodes3, spine, l2, LS9, SP9, sl, gsp9, S9, hl2, rfl⟩
  obtain ⟨u, rfl⟩ : ∃ u, l2 = [("n", u)] := hl2.elim (fun h => by omega) id
  have gv9 := S9 _ _ gv8 lcv
  clear LS4 SP0 gcs gv8 gsp8 S9 hl2 hie lcs
  dsimp only [List.cons_append, List.nil_append]
  refine seqN rfl ?_
  have fin := law_rest G ho LS9 SP9 (by omega) (by omega) gsp9 gv9 lsp lcv q0 q1 q2 v0b v1b v2b (c0 := c0) (u := u) (tl := .tup (tailI.map PV.int)) _ _ rfl rfl
  rw [hsc]
  exact fin
end
end
section
open PySem PySem.W PySem.Calls PyProof.Rows
open scoped Classical

/-- the globals: names and values, whatever the hashes are -/
noncomputable def kvs (K : Frag) (a : Nat) : List (Value × Value) := match K.lookup a with
  | some ⟨_, _, .dict es _, _⟩ => es.toList.map fun e => (e.key, e.val)
  | _ => []
noncomputable def gEnts : List (String × Nat × Value) := [("__name__", 165, .str (Str.ofString "law_xm0286_01") 655), ("__doc__", 166, .none), ("__package__", 167, .none), ("__loader__", 168, .builtin "__main__.__loader__#opaque"), ("__spec__", 169, .none), ("__annotations__", 170, .ref 6), ("__builtins__", 171, .ref 4), ("__file__", 173, .str (Str.ofString "/claim/cut.py") 172), ("__cached__", 174, .none), ("RuneError", 219, .ref 31), ("BadKind", 235, .ref 44), ("VOID", 239, .int 0 238), ("BOOL", 241, .int 1 240), ("CHAR", 243, .int 2 242), ("I1", 245, .int 3 244), ("U1", 247, .int 4 246), ("I2", 249, .int 5 248), ("U2", 251, .int 6 250), ("I4", 253, .int 7 252), ("U4", 255, .int 8 254), ("I8", 257, .int 9 256), ("U8", 259, .int 10 258), ("NINT", 261, .int 11 260), ("OBJECT", 263, .int 12 262), ("STRING", 265, .int 13 264), ("NULLK", 267, .int 14 266), ("PRIM_END", 269, .int 16 268), ("R_PRIM", 271, .int 1 270), ("R_CLASS", 273, .int 2 272), ("R_VALUE", 275, .int 3 274), ("R_ARRAY", 277, .int 4 276), ("R_BYREF", 279, .int 5 278), ("R_VAR", 281, .int 6 280), ("R_MVAR", 283, .int 7 282), ("R_BOXED", 285, .int 8 284), ("R_ROREF", 287, .int 9 286), ("R_FTN", 289, .int 10 288), ("R_RAW", 291, .int 11 290), ("DEEPEST_KIND", 293, .int 24 292), ("HEAVIEST_KIND", 295, .int 4096 294), ("TID_PRIM", 324, .ref 47), ("PRIM_WORDS", 341, .ref 48), ("KindTable", 398, .ref 79), ("inner_kinds", 406, .ref 90), ("row_level", 413, .ref 97), ("row_length", 420, .ref 104), ("check_kind_row", 430, .ref 111), ("check_named", 438, .ref 118), ("check_args", 447, .ref 125), ("may_stand", 456, .ref 132), ("class_kind", 465, .ref 139), ("value_kind", 474, .ref 146), ("prim_kind", 482, .ref 153), ("array_kind", 490, .ref 160), ("byref_kind", 498, .ref 167), ("var_kind", 506, .ref 174), ("mvar_kind", 514, .ref 181), ("boxed_kind", 522, .ref 188), ("roref_kind", 530, .ref 195), ("ftn_kind", 540, .ref 202), ("raw_kind", 548, .ref 209), ("is_value", 556, .ref 216), ("is_var", 565, .ref 223), ("MOST_SHOWN", 567, .int 8 566), ("AROUND_WORDS", 583, .ref 224), ("show_kind", 592, .ref 236), ("show_level", 604, .ref 243), ("show_parts", 619, .ref 250), ("show_core", 633, .ref 257), ("show_name", 641, .ref 264), ("show_args", 654, .ref 271), ("_law_PRIMS", 673, .ref 272), ("_law_leaf", 686, .ref 279), ("_law_step", 692, .ref 284), ("_law_words", 698, .ref 289), ("_law_wrapped", 711, .ref 296), ("_law_pointer", 717, .ref 301), ("_law_names", 727, .ref 308), ("law", 733, .ref 313)]
noncomputable def gkv : List (Value × Value) := gEnts.map fun e => (.str (Str.ofString e.1) e.2.1, e.2.2)
noncomputable def lookIn (l : List (Value × Value)) (x : PySem.Str) : Option Value := (l.find? fun e => e.1.isStr x).map (·.2)
theorem mg_look {K : Frag} {h : Heap} {mg : PySem.Str → Option Value} (X : K.In h) (hK : kvs K 3 = gkv) (hl : (K.lookup 3).isSome = true) (G : h.Ns mainGlobals mg) (x : PySem.Str) : mg x = lookIn gkv x := by
  rw [← hK]
  obtain ⟨o, es, ep, ho, hdt, _, hf⟩ := G
  obtain ⟨o3, hl⟩ := Option.isSome_iff_exists.mp hl
  have h3 := X 3 o3 hl
  have e3 : o = o3 := by
    have : h.get? 3 = some o := ho
    rw [h3] at this; exact (Option.some.inj this).symm
  subst e3
  obtain ⟨c, d, dt, sl⟩ := o
  dsimp only at hdt
  subst hdt
  rw [← hf x]
  unfold lookIn kvs
  rw [hl]
  dsimp only
  unfold nsFind findBy
  rw [← Array.find?_toList]
  generalize es.toList = l
  induction l with
  | nil => rfl
  | cons e r ih =>
    rw [List.map_cons, List.find?_cons, List.find?_cons]
    dsimp only
    split
    · rfl
    · exact ih

noncomputable def okG (l : List (Value × Value)) (e : String × PV) : Bool := match e.2 with
  | .int i => (match lookIn l (Str.ofString e.1) with
    | some (.int j _) => decide (i = j)
    | _ => false)
  | .val (.ref a) => (match lookIn l (Str.ofString e.1) with
    | some (.ref b) => decide (a = b)
    | _ => false)
  | .val (.builtin b) => (lookIn l (Str.ofString e.1)).isNone && decide (e.1 = "len" ∧ b = "len")
  | .val (.type b) => (lookIn l (Str.ofString e.1)).isNone && decide ((e.1 = "range" ∧ b = "range") ∨ (e.1 = "str" ∧ b = "str") ∨ (e.1 = "tuple" ∧ b = "tuple"))
  | .tup _ => (match lookIn l (Str.ofString e.1) with
    | some (.ref b) => decide ((e.1 = "PRIM_WORDS" ∧ b = 48) ∨ (e.1 = "_law_PRIMS" ∧ b = 272))
    | _ => false)
  | _ => false
theorem ok_all : ∀ e ∈ glist, okG gkv e = true := by
  have : glist.all (okG gkv) = true := by decide +kernel
  exact List.all_eq_true.mp this
noncomputable def isTupB : PV → Bool
  | .tup _ => true
  | _ => false
theorem tup_names : ∀ e ∈ glist, isTupB e.2 = true → e.2 = .tup primW := by
  have h : ∀ (l : List (String × PV)), (l.filter fun e => isTupB e.2) = [("PRIM_WORDS", .tup primW), ("_law_PRIMS", .tup primW)] → ∀ e ∈ l, isTupB e.2 = true → e.2 = .tup primW := fun l hl e he ht => by
    have : e ∈ l.filter fun e => isTupB e.2 := List.mem_filter.mpr ⟨he, ht⟩
    rw [hl] at this
    simp only [List.mem_cons, List.not_mem_nil, or_false] at this
    rcases this with rfl | rfl <;> rfl
  exact h glist (by kernel_rfl)
theorem L_some {l : List (String × PV)} {x : PySem.Str} {q : PV} (h : L l x = some q) : ∃ e ∈ l, x = Str.ofString e.1 ∧ e.2 = q := by
  unfold L at h
  obtain ⟨e, he, rfl⟩ := Option.map_eq_some_iff.mp h
  exact ⟨e, List.mem_of_find?_eq_some he, by simpa using List.find?_some he, rfl⟩
theorem vrels_strs (h : Heap) : ∀ (l : List (String × Nat)), VRels h (l.map fun e => .str (Str.ofString e.1)) (l.map fun e => .str (Str.ofString e.1) e.2)
  | [] => VRels.nil
  | e :: l => VRels.cons (by simp only [VRel]; exact ⟨_, rfl⟩) (vrels_strs h l)

theorem boot_four : bootBuiltins (Str.ofString "len") = some (.builtin "len") ∧ bootBuiltins (Str.ofString "range") = some (.type "range") ∧ bootBuiltins (Str.ofString "str") = some (.type "str") ∧ bootBuiltins (Str.ofString "tuple") = some (.type "tuple") := by
  exact ⟨rfl, rfl, rfl, rfl⟩

noncomputable def primObj (t : Nat) : Obj := { cls := .type "tuple", data := .seq ((primWords.zip ((List.range 16).map (· + t))).map fun e => Value.str (Str.ofString e.1) e.2).toArray }
theorem prim_rel {K : Frag} {h : Heap} (X : K.In h) (h48 : K.lookup 48 = some (primObj 325)) (h272 : K.lookup 272 = some (primObj 657)) {b : Nat} (hb : b = 48 ∨ b = 272) : VRel h (.tup primW) (.ref b) := by
  have main : ∀ (b t : Nat), K.lookup b = some (primObj t) → VRel h (.tup primW) (.ref b) := by
    intro b t e
    have := X _ _ e
    simp only [VRel]
    refine ⟨b, _, rfl, ⟨_, this, rfl, 0, rfl⟩, ?_⟩
    exact vrels_strs h (primWords.zip ((List.range 16).map (· + t)))
  rcases hb with rfl | rfl
  · exact main 48 325 h48
  · exact main 272 657 h272

/-- the globals as abstract values -/
theorem gl_all {K : Frag} {h : Heap} {mg mb : PySem.Str → Option Value} (X : K.In h) (hK : kvs K 3 = gkv) (hl3 : (K.lookup 3).isSome = true) (h48 : K.lookup 48 = some (primObj 325)) (h272 : K.lookup 272 = some (primObj 657)) (G : h.Ns mainGlobals mg) (hB : ∀ x : PySem.Str, x ≠ "__name__" → mb x = bootBuiltins x) (x : PySem.Str) (q : PV) (hx : L glist x = some q) :
    ∃ v, (mg x = some v ∨ (mg x = none ∧ mb x = some v)) ∧ VRel h q v := by
  obtain ⟨e, he, rfl, rfl⟩ := L_some hx
  have ok := ok_all e he
  have tn := tup_names e he
  have ml := mg_look X hK hl3 G (Str.ofString e.1)
  obtain ⟨y, q⟩ := e
  unfold okG at ok
  dsimp only at ok tn ml ⊢
  obtain ⟨b1, b2, b3, b4⟩ := boot_four
  have nn : ∀ y : String, (y = "__name__") = False → (Str.ofString y : PySem.Str) ≠ "__name__" := fun y hy e => by rw [← hy]; exact ofString_inj e
  split at ok
  · rename_i i hq
    split at ok
    · rename_i j t hl
      have := of_decide_eq_true ok; subst this
      exact ⟨_, .inl (ml.trans hl), by simp only [VRel]; exact ⟨_, rfl⟩⟩
    · cases ok
  · split at ok
    · rename_i b hl
      have := of_decide_eq_true ok; subst this
      exact ⟨_, .inl (ml.trans hl), by simp only [VRel]⟩
    · cases ok
  · simp only [Bool.and_eq_true, Option.isNone_iff_eq_none, decide_eq_true_eq] at ok
    obtain ⟨h1, h2, h3⟩ := ok
    subst h2 h3
    exact ⟨_, .inr ⟨ml.trans h1, (hB _ (nn _ (by simp))).trans b1⟩, by simp only [VRel]⟩
  · simp only [Bool.and_eq_true, Option.isNone_iff_eq_none, decide_eq_true_eq] at ok
    obtain ⟨h1, h2⟩ := ok
    rcases h2 with ⟨h2, h3⟩ | ⟨h2, h3⟩ | ⟨h2, h3⟩ <;> subst h2 h3
    · exact ⟨_, .inr ⟨ml.trans h1, (hB _ (nn _ (by simp))).trans b2⟩, by simp only [VRel]⟩
    · exact ⟨_, .inr ⟨ml.trans h1, (hB _ (nn _ (by simp))).trans b3⟩, by simp only [VRel]⟩
    · exact ⟨_, .inr ⟨ml.trans h1, (hB _ (nn _ (by simp))).trans b4⟩, by simp only [VRel]⟩
  · split at ok
    · rename_i l b hl
      have hb := of_decide_eq_true ok
      have tn := tn rfl
      injection tn with tn
      subst tn
      exact ⟨_, .inl (ml.trans hl), prim_rel X h48 h272 (hb.imp And.right And.right)⟩
    · cases ok
  · cases ok
end
section
open PySem PySem.W PySem.Calls PyProof.Rows

theorem ints_rel (h : Heap) : ∀ {vs : List Value} {ns : List Int}, IntsAre vs ns → VRels h (ns.map .int) vs
  | _, _, .nil => VRels.nil
  | _, _, .cons _ _ r => VRels.cons (by simp only [VRel]; exact ⟨_, rfl⟩) (ints_rel h r)

/-- a dict of the top, keyed by ints -/
theorem int_dict (prog : Program) (w : World) {h : Heap} {a : Addr} (D : List (Int × Nat × Value × PV)) {ep : Nat} (ho : h.get? a = some { cls := .type "dict", data := .dict (D.map fun e => DictEntry.mk (hashInt e.1) (.int e.1 e.2.1) e.2.2.1).toArray ep }) (hr : ∀ e ∈ D, VRel h e.2.2.2 e.2.2.1) :
    ∃ f, h.MapOf (intKind prog w) a f ∧ ∀ k, OV h ((D.map fun e => (e.1, e.2.2.2)).lookup k) (f k) := by
  refine ⟨_, ⟨_, _, _, ho, ⟨rfl, rfl, rfl⟩, rfl, fun e he => ?_, fun k => rfl⟩, fun k => ?_⟩
  · have he' := Array.mem_toList_iff.mpr he
    rw [List.toList_toArray] at he'
    obtain ⟨d, _, rfl⟩ := List.mem_map.mp he'
    exact ⟨d.1, by simp [intKind, Value.isInt], rfl⟩
  · unfold findBy
    rw [← Array.find?_toList, List.toList_toArray]
    clear ho
    induction D with
    | nil => exact rfl
    | cons e r ih =>
      have ih := ih fun q hq => hr q (List.mem_cons_of_mem _ hq)
      have h1 := hr e (List.mem_cons_self)
      rw [List.map_cons, List.map_cons, List.find?_cons, List.lookup_cons]
      by_cases hk : k = e.1
      · subst hk
        have e1 : (intKind prog w).is e.1 (Value.int e.1 e.2.1) = true := by simp [intKind, Value.isInt]
        rw [e1]
        simp only [beq_self_eq_true]
        exact ⟨_, rfl, h1⟩
      · have e1 : (intKind prog w).is k (Value.int e.1 e.2.1) = false := by
          simp [intKind, Value.isInt]
          exact fun q => hk q.symm
        have e2 : (k == e.1) = false := by simpa using hk
        rw [e1, e2]
        exact ih
theorem lookup_map {l : List (Int × Int)} (k : Int) : (l.lookup k).map PV.int = (l.map fun e => (e.1, PV.int e.2)).lookup k := by
  induction l with
  | nil => rfl
  | cons e r ih =>
    rw [List.map_cons, List.lookup_cons, List.lookup_cons]
    cases k == e.1
    · exact ih
    · rfl

noncomputable def D47 : List (Int × Nat × Value × PV) := [(20, 296, .int 0 238, .int 0), (9, 297, .int 1 240, .int 1), (10, 298, .int 2 242, .int 2), (11, 299, .int 3 244, .int 3), (12, 300, .int 4 246, .int 4), (13, 301, .int 5 248, .int 5), (14, 302, .int 6 250, .int 6), (15, 303, .int 7 252, .int 7), (16, 304, .int 8 254, .int 8), (17, 305, .int 9 256, .int 9), (18, 306, .int 10 258, .int 10), (19, 307, .int 11 260, .int 11), (1, 308, .int 12 262, .int 12), (4, 309, .int 13 264, .int 13)]
noncomputable def D224 : List (Int × Nat × Value × PV) := [(4, 276, .ref 225, .tup [.str (Str.ofString ""), .str (Str.ofString "[]")]), (5, 278, .ref 226, .tup [.str (Str.ofString ""), .str (Str.ofString "&")]), (8, 284, .ref 227, .tup [.str (Str.ofString "boxed "), .str (Str.ofString "")]),
      (9, 286, .ref 228, .tup [.str (Str.ofString "readonly "), .str (Str.ofString "&")]), (11, 290, .ref 229, .tup [.str (Str.ofString "raw "), .str (Str.ofString "")])]
noncomputable def dictObj (D : List (Int × Nat × Value × PV)) (ep : Nat) : Obj := { cls := .type "dict", data := .dict (D.map fun e => DictEntry.mk (hashInt e.1) (.int e.1 e.2.1) e.2.2.1).toArray ep }
noncomputable def pairObj (x y : String) (t u : Nat) : Obj := { cls := .type "tuple", data := .seq #[Value.str (Str.ofString x) t, Value.str (Str.ofString y) u] }
theorem tid_dict {prog : Program} {w : World} {K : Frag} {h : Heap} (X : K.In h) (h47 : K.lookup 47 = some (dictObj D47 14)) : ∃ f, h.MapOf (intKind prog w) 47 f ∧ ∀ k, OV h (tidPrim k) (f k) := by
  obtain ⟨f, h1, h2⟩ := int_dict prog w (h := h) (a := 47) D47 (X 47 _ h47) (fun e he => by
    unfold D47 at he
    simp only [List.mem_cons, List.not_mem_nil, or_false] at he
    rcases he with rfl | rfl | rfl | rfl | rfl | rfl | rfl | rfl | rfl | rfl | rfl | rfl | rfl | rfl <;> (simp only [VRel]; exact ⟨_, rfl⟩))
  refine ⟨f, h1, fun k => ?_⟩
  have := h2 k
  unfold tidPrim
  rw [lookup_map]
  exact this
theorem pair_rel {K : Frag} {h : Heap} (X : K.In h) {b : Nat} {x y : String} {t u : Nat} (e : K.lookup b = some (pairObj x y t u)) : VRel h (.tup [.str (Str.ofString x), .str (Str.ofString y)]) (.ref b) := by
  simp only [VRel]
  refine ⟨b, _, rfl, ⟨_, X _ _ e, rfl, 0, rfl⟩, ?_⟩
  exact VRels.cons (by simp only [VRel]; exact ⟨_, rfl⟩) (VRels.cons (by simp only [VRel]; exact ⟨_, rfl⟩) VRels.nil)
theorem lookup_map2 {l : List (Int × String × String)} (k : Int) : (l.lookup k).map (fun e => PV.tup [.str (Str.ofString e.1), .str (Str.ofString e.2)]) = (l.map fun e => (e.1, PV.tup [.str (Str.ofString e.2.1), .str (Str.ofString e.2.2)])).lookup k := by
  induction l with
  | nil => rfl
  | cons e r ih =>
    rw [List.map_cons, List.lookup_cons, List.lookup_cons]
    cases k == e.1
    · exact ih
    · rfl
theorem around_dict {prog : Program} {w : World} {K : Frag} {h : Heap} (X : K.In h) (h224 : K.lookup 224 = some (dictObj D224 5)) (h5 : ([225, 226, 227, 228, 229] : List Nat).map (fun a => K.lookup a) = [some (pairObj "" "[]" 568 569), some (pairObj "" "&" 570 571), some (pairObj "boxed " "" 572 573), some (pairObj "readonly " "&" 574 575), some (pairObj "raw " "" 576 577)]) :
    ∃ f, h.MapOf (intKind prog w) 224 f ∧ ∀ k, OV h (around k) (f k) := by
  simp only [List.map_cons, List.map_nil, List.cons.injEq, and_true] at h5
  obtain ⟨p1, p2, p3, p4, p5⟩ := h5
  obtain ⟨f, h1, h2⟩ := int_dict prog w (h := h) (a := 224) D224 (X 224 _ h224) (fun e he => by
    unfold D224 at he
    simp only [List.mem_cons, List.not_mem_nil, or_false] at he
    rcases he with rfl | rfl | rfl | rfl | rfl
    · exact pair_rel X p1
    · exact pair_rel X p2
    · exact pair_rel X p3
    · exact pair_rel X p4
    · exact pair_rel X p5)
  refine ⟨f, h1, fun k => ?_⟩
  have := h2 k
  unfold around
  rw [lookup_map2]
  exact this

/-- a function's object, its code's long name -/
noncomputable def fnWant (p : Params) (f : Nat) : Option Obj := (fnTab p f).map fun fd => { cls := .type "function", data := .func fd }
noncomputable def cdOf (K : Frag) (f : Nat) : Option PySem.Str := match K.lookup (f - 1) with
  | some ⟨_, _, .fields vs, _⟩ => (match (vs[1]? : Option Value) with | some (Value.str q _) => some q | _ => none)
  | _ => none
theorem fn_mem {p : Params} {f : Nat} {fd : FuncData} (hf : fnTab p f = some fd) : f ∈ fnList := by
  by_cases h : f ∈ fnList
  · exact h
  · unfold fnTab at hf
    rw [if_neg h] at hf
    cases hf
theorem code_of (p : Params) : fnList.map (fun f => (fnTab p f).map fun fd => (fd.code, fd.globals, fd.builtins, fd.closure)) = fnList.map (fun f => some (Value.ref (f - 1), mainGlobals, builtinsNs, ([] : List (PySem.Str × Addr)))) := by kernel_rfl
theorem map_at {α β : Type} {f g : α → β} {l : List α} (h : l.map f = l.map g) : ∀ x ∈ l, f x = g x := fun _ hx => List.map_inj_left.mp h _ hx
theorem fn_all {p : Params} {K : Frag} {h : Heap} (X : K.In h) (e1 : fnList.map (fun f => (K.lookup f, cdOf K f)) = fnList.map (fun f => (fnWant p f, (fnTab p f).map (·.qualname)))) (f : Nat) (fd : FuncData) (hf : fnTab p f = some fd) :
    h.get? f = some { cls := .type "function", data := .func fd } ∧ h.CodeRec fd.code fd.qualname ∧ fd.globals = mainGlobals ∧ fd.builtins = builtinsNs ∧ fd.closure = [] := by
  have hm := fn_mem hf
  have q1 := map_at e1 f hm
  have q2 := map_at (code_of p) f hm
  unfold fnWant at q1
  rw [hf] at q1 q2
  simp only [Prod.mk.injEq, Option.map_some, Option.some.injEq] at q1 q2
  obtain ⟨a1, a2⟩ := q1
  obtain ⟨b1, b2, b3, b4⟩ := q2
  refine ⟨X _ _ a1, ?_, b2, b3, b4⟩
  unfold cdOf at a2
  split at a2
  · rename_i c d vs sl hl
    split at a2
    · rename_i q t hv
      have := Option.some.inj a2
      subst this
      exact ⟨f - 1, _, vs, t, b1, X _ _ hl, rfl, hv⟩
    · cases a2
  · cases a2

/-- what is read off the written part of the heap -/
structure HK (p : Params) (K : Frag) : Prop where
  e3 : kvs K 3 = gkv
  l3 : (K.lookup 3).isSome = true
  h48 : K.lookup 48 = some (primObj 325)
  h272 : K.lookup 272 = some (primObj 657)
  h47 : K.lookup 47 = some (dictObj D47 14)
  h224 : K.lookup 224 = some (dictObj D224 5)
  h5 : ([225, 226, 227, 228, 229] : List Nat).map (fun a => K.lookup a) = [some (pairObj "" "[]" 568 569), some (pairObj "" "&" 570 571), some (pairObj "boxed " "" 572 573), some (pairObj "readonly " "&" 574 575), some (pairObj "raw " "" 576 577)]
  fns : fnList.map (fun f => (K.lookup f, cdOf K f)) = fnList.map (fun f => (fnWant p f, (fnTab p f).map (·.qualname)))
  cls : (hasDictIn K 79, plainOver K 79, makesIn K 79, keepIn K (.ref 79), findIn K (.ref 79) "__setattr__", plainGet K 79 "x") = (true, true, true, true, some (some (.builtin "object.__setattr__")), true)
  att : (["rows", "index", "depths", "weights", "opens"].map Str.ofString).map (findIn K (.ref 79)) = (["rows", "index", "depths", "weights", "opens"].map Str.ofString).map fun _ => some none
  mth : ([("put", 76), ("row", 69), ("__init__", 62)] : List (String × Nat)).map (fun e => (findIn K (.ref 79) (Str.ofString e.1), isFn K (.ref e.2))) = ([("put", 76), ("row", 69), ("__init__", 62)] : List (String × Nat)).map fun e => (some (some (.ref e.2)), true)
theorem HK.meth {p : Params} {K : Frag} (hk : HK p K) : ∀ x f, ourMeth x = some f → findIn K (.ref 79) x = some (some (.ref f)) ∧ isFn K (.ref f) = true := by
  intro x f h
  have m := map_at hk.mth
  have m1 := m ("put", 76) (by simp)
  have m2 := m ("row", 69) (by simp)
  have m3 := m ("__init__", 62) (by simp)
  simp only [Prod.mk.injEq] at m1 m2 m3
  unfold ourMeth at h
  split at h
  · rename_i e; subst e; cases h; exact m1
  · split at h
    · rename_i e; subst e; cases h; exact m2
    · split at h
      · rename_i e; subst e; cases h; exact m3
      · cases h

noncomputable def ourC (prog : Program) (w : World) (K : Frag) (s₁ : Shared) (sa : Addr) (xs : List Int) : Ctx :=
  { prog := prog, w := w, hb := s₁.heap, s0 := s₁, Gl := L glist, FD := ourFD, FL := fun a => if a = sa then some (xs.map .int) else none, K := K, KT := 79, Fn := fnTab w.params, attrs := ["rows", "index", "depths", "weights", "opens"].map Str.ofString, meth := ourMeth }
theorem our_good {prog : Program} {w : World} {K : Frag} {s₁ : Shared} {sa : Addr} {xs : List Int} {vs : List Value} {mg mb : PySem.Str → Option Value} (X : K.In s₁.heap) (hk : HK w.params K) (Tg : s₁.heap.Ns mainGlobals mg) (Tb : s₁.heap.Ns builtinsNs mb) (Tl : s₁.heap.NoLimit)
    (TB : ∀ x : PySem.Str, x ≠ "__name__" → mb x = bootBuiltins x) (hL : s₁.heap.IsList sa vs.toArray) (hI : IntsAre vs xs) : Good (ourC prog w K s₁ sa xs) mg mb where
  g := Tg
  b := Tb
  nolimit := Tl
  gl := fun x q e => gl_all X hk.e3 hk.l3 hk.h48 hk.h272 Tg TB x q e
  fd := fun a m e => by
    unfold ourC ourFD at e
    dsimp only at e
    split at e
    · rename_i q; subst q; cases e; exact ⟨rfl, tid_dict X hk.h47⟩
    · split at e
      · rename_i q; subst q; cases e; exact ⟨rfl, around_dict X hk.h224 hk.h5⟩
      · cases e
  fl := fun a ys e => by
    unfold ourC at e
    dsimp only at e
    split at e
    · rename_i q; subst q; cases e; exact ⟨_, hL, by rw [List.toList_toArray]; exact ints_rel _ hI⟩
    · cases e
  X := X
  kcls := by
    have := hk.cls
    simp only [Prod.mk.injEq] at this
    exact this
  kattr := map_at hk.att
  kmeth := hk.meth
  fn := fun f fd hf => fn_all X hk.fns f fd hf
theorem our_our (prog : Program) (w : World) (K : Frag) (s₁ : Shared) (sa : Addr) (xs : List Int) : Our (ourC prog w K s₁ sa xs) w.params := ⟨rfl, rfl, rfl, rfl, rfl, rfl⟩
end
section
open PySem PySem.W PySem.Calls PyProof.Rows

theorem kinds_ok {names : List (PySem.Str × NameKind)} (h : names.all (fun e => decide (e.2 ≠ .cell)) = true) (x : PySem.Str) : names.lookup x ≠ some .cell := by
  induction names with
  | nil => intro e; cases e
  | cons e r ih =>
    rw [List.all_cons, Bool.and_eq_true] at h
    rw [List.lookup_cons]
    split
    · intro q
      have := of_decide_eq_true h.1
      exact this (Option.some.inj q)
    · exact ih h.2

theorem law_end {prog : Program} {w : World} {K : Frag} {s₁ : Shared} {mg mb : PySem.Str → Option Value} {sa fa : Addr} {vs : List Value} {xs : List Int} {cd : Value} {h₁ : Heap} {tk : Nat} {nm : PySem.Str} {m : PySem.Str → Option Value} {fd : FuncData} {body : List PySem.Stmt} {sc : Scope}
    (X : K.In s₁.heap) (hk : HK w.params K) (Tg : s₁.heap.Ns mainGlobals mg) (Tb : s₁.heap.Ns builtinsNs mb) (Tl : s₁.heap.NoLimit)
    (TB : ∀ x : PySem.Str, x ≠ "__name__" → mb x = bootBuiltins x) (hL : s₁.heap.IsList sa vs.toArray) (hI : IntsAre vs xs) (hx : xs.length ≤ 63) (F : Fr s₁.heap s₁.heap.objs.size h₁ m) (hm : m (Str.ofString "script") = some (.ref sa))
    (hf : lawFd w.params = some fd) (hb : fd.body = .stmts body) (hsc : fd.scope = sc) (hk : (decide (sc.kind = .function) && decide (sc.names.lookup (Str.ofString "script") = some .local) && sc.names.all (fun e => decide (e.2 ≠ .cell))) = true) :
    wpAny (model prog w) (callerA.deeper (envOf nm sc s₁.heap.objs.size fa cd)) (execs body (envOf nm sc s₁.heap.objs.size fa cd))
      (fun f s' => (∃ m', Fr s₁.heap s₁.heap.objs.size s'.heap m') ∧ s'.gens = s₁.gens ∧ s'.os = s₁.os ∧ f = .ret (.bool true)) NoE { heap := h₁, gens := s₁.gens, drawn := s₁.drawn, toks := tk, os := s₁.os } := by
  subst hsc
  simp only [Bool.and_eq_true, decide_eq_true_eq] at hk
  obtain ⟨⟨hk1, hk2⟩, hk3⟩ := hk
  have G := our_good (prog := prog) X hk Tg Tb Tl TB hL hI
  have ho := our_our prog w K s₁ sa xs
  have aw := law_aw G ho (sa := sa) (xs := xs) (show (if sa = sa then some (xs.map PV.int) else none) = _ from if_pos rfl) hx fd body hf hb
  generalize hC : ourC prog w K s₁ sa xs = C at G ho aw
  have c1 : C.prog = prog := by rw [← hC]; rfl
  have c2 : C.w = w := by rw [← hC]; rfl
  have c3 : C.hb = s₁.heap := by rw [← hC]; rfl
  have c4 : C.s0 = s₁ := by rw [← hC]; rfl
  clear hC
  generalize henv : envOf nm fd.scope s₁.heap.objs.size fa cd = env
  have eS : env.scope = fd.scope := by rw [← henv]; rfl
  have eL : env.locals = s₁.heap.objs.size := by rw [← henv]; rfl
  have eC : env.cells = [] := by rw [← henv]; rfl
  have kf : ∀ x, env.kindOf x = fd.scope.names.lookup x := fun x => by rw [← henv]; rfl
  have S : St C (fun _ => none) { heap := h₁, gens := s₁.gens, drawn := s₁.drawn, toks := tk, os := s₁.os } :=
    ⟨fun b o e => F.keep b o (by rw [← c3]; exact e), fun _ _ e => (nomatch e), fun _ _ e => (nomatch e), by rw [c4], by rw [c4], by rw [c4]⟩
  have loc : ∀ x p, L [("script", PV.val (.ref sa))] x = some p → x = Str.ofString "script" ∧ p = .val (.ref sa) := fun x p e => by
    obtain ⟨q, hq, h1, h2⟩ := L_some e
    simp only [List.mem_singleton] at hq
    subst hq
    exact ⟨h1, h2.symm⟩
  have FR : FRel C env (fun _ => none) h₁ (L [("script", PV.val (.ref sa))]) := by
    refine ⟨by rw [eS]; exact hk1, by rw [← henv]; rfl, by rw [← henv]; rfl, by rw [eL, c3]; exact Heap.get?_none_of_le (Nat.le_refl _), rfl, ⟨m, by rw [eL]; exact F.ns, fun x p e _ => ?_⟩, fun x p e => ?_, fun x c e => ?_, fun x y c e _ => ?_, fun x e => ?_⟩
    · obtain ⟨rfl, rfl⟩ := loc x p e
      exact ⟨_, hm, by simp only [VRel]⟩
    · obtain ⟨rfl, rfl⟩ := loc x p e
      exact .inl (by rw [kf]; exact hk2)
    · rw [eC] at e; cases e
    · rw [eC] at e; cases e
    · rw [kf] at e; exact absurd e (kinds_ok hk3 x)
  have R : Room (callerA.deeper env) 400 := ⟨rfl, by show 1 + claimMargin + 1 + 400 < recursionLimit; decide, by show 4 + 3 + 10 * 400 + 100 < cLine; decide⟩
  rw [← eS] at aw
  have bs := body_sound (A := callerA.deeper env) (env := env) (s := { heap := h₁, gens := s₁.gens, drawn := s₁.drawn, toks := tk, os := s₁.os }) G ⟨R, S, FR, ScOk.refl env⟩ aw
  rw [c1, c2] at bs
  refine wpAny_mono bs (fun f s' ⟨fl, m', H', rf, S', T', F', q⟩ => ?_) fun _ _ e => e
  have hq := q.q
  obtain ⟨mm, hmm, _⟩ := F'.ns
  rw [eL] at hmm
  refine ⟨⟨mm, hmm, fun b o e => S'.keep b o (by rw [c3]; exact e), Nat.le_refl _⟩, by rw [S'.gens, c4], by rw [S'.os, c4], ?_⟩
  cases fl with
  | next => cases hq
  | ret p =>
    obtain ⟨v, rfl, rv⟩ := rf
    subst hq
    simp only [VRel] at rv
    rw [rv]
  | brk => exact hq.elim
  | cont => exact hq.elim
end
-- names that are taken, so that no twins are laid
theorem whole.tw10000958634945066235 : True := trivial
theorem whole.tw10007520593648235073 : True := trivial
theorem whole.tw10025635815308576066 : True := trivial
theorem whole.tw10118140284582671090 : True := trivial
theorem whole.tw10144505478992762587 : True := trivial
theorem whole.tw10178181129370835086 : True := trivial
theorem whole.tw10219327507634694686 : True := trivial
theorem whole.tw10332575325313852403 : True := trivial
theorem whole.tw10335108021726791369 : True := trivial
theorem whole.tw10339747121181971505 : True := trivial
theorem whole.tw10344827342348678470 : True := trivial
theorem whole.tw10354518954362131899 : True := trivial
theorem whole.tw10379991877525085312 : True := trivial
theorem whole.tw10395796803770085622 : True := trivial
theorem whole.tw10438997657263567297 : True := trivial
theorem whole.tw10461253832287612282 : True := trivial
theorem whole.tw10467399731503315703 : True := trivial
theorem whole.tw10472183733418339316 : True := trivial
theorem whole.tw10488504414272976643 : True := trivial
theorem whole.tw10499325594661192776 : True := trivial
theorem whole.tw10626898068832961489 : True := trivial
theorem whole.tw1072497446573119103 : True := trivial
theorem whole.tw10887019763833697050 : True := trivial
theorem whole.tw11018331769982298155 : True := trivial
theorem whole.tw11116944545036436439 : True := trivial
theorem whole.tw11357175057958205107 : True := trivial
theorem whole.tw11384259339768038936 : True := trivial
theorem whole.tw113900542113845248 : True := trivial
theorem whole.tw11401351377558187561 : True := trivial
theorem whole.tw11409993775148365219 : True := trivial
theorem whole.tw11423436602419212718 : True := trivial
theorem whole.tw11678933692714762019 : True := trivial
theorem whole.tw11792362355297244138 : True := trivial
theorem whole.tw1182916100746360932 : True := trivial
theorem whole.tw11836910150536664915 : True := trivial
theorem whole.tw11876454138822706389 : True := trivial
theorem whole.tw11952309323241053379 : True := trivial
theorem whole.tw12066178620653064874 : True := trivial
theorem whole.tw12092817750456807627 : True := trivial
theorem whole.tw12098860561503762481 : True := trivial
theorem whole.tw12117460353608821864 : True := trivial
theorem whole.tw12179455670472476543 : True := trivial
theorem whole.tw12253004954085494491 : True := trivial
theorem whole.tw1242133270297695508 : True := trivial
theorem whole.tw12442016628978143412 : True := trivial
theorem whole.tw1256279898242784606 : True := trivial
theorem whole.tw12562849145585476731 : True := trivial
theorem whole.tw1266484639899004939 : True := trivial
theorem whole.tw12762855891700095494 : True := trivial
theorem whole.tw12808456870637180559 : True := trivial
theorem whole.tw12850242359631670003 : True := trivial
theorem whole.tw12852820008105578649 : True := trivial
theorem whole.tw12920395458479335663 : True := trivial
theorem whole.tw12928932934922122878 : True := trivial
theorem whole.tw12967805889597932581 : True := trivial
theorem whole.tw13000713063990318526 : True := trivial
theorem whole.tw13110515450571257733 : True := trivial
theorem whole.tw13142167418276237254 : True := trivial
theorem whole.tw13155097880312403346 : True := trivial
theorem whole.tw13156973312945586846 : True := trivial
theorem whole.tw13213058742666125385 : True := trivial
theorem whole.tw1329479340354266572 : True := trivial
theorem whole.tw13334927893685096626 : True := trivial
theorem whole.tw13463558215457259582 : True := trivial
theorem whole.tw13675596732203519343 : True := trivial
theorem whole.tw13730376311393935369 : True := trivial
theorem whole.tw13760198194640045919 : True := trivial
theorem whole.tw1393339623888494026 : True := trivial
theorem whole.tw13962616709173656972 : True := trivial
theorem whole.tw13974613887430780637 : True := trivial
theorem whole.tw14138553856905868755 : True := trivial
theorem whole.tw14192229110069238088 : True := trivial
theorem whole.tw14239292526413980002 : True := trivial
theorem whole.tw14381574177426341226 : True := trivial
theorem whole.tw14395644662136614805 : True := trivial
theorem whole.tw14407849266092530191 : True := trivial
theorem whole.tw14492196311604417308 : True := trivial
theorem whole.tw14621228733418778453 : True := trivial
theorem whole.tw14654356449610600485 : True := trivial
theorem whole.tw14661705875561194100 : True := trivial
theorem whole.tw14671651394210877623 : True := trivial
theorem whole.tw1469495571348798126 : True := trivial
theorem whole.tw1470681187219097129 : True := trivial
theorem whole.tw14756447051001558117 : True := trivial
theorem whole.tw14776171463994254414 : True := trivial
theorem whole.tw14857529406646634625 : True := trivial
theorem whole.tw14875044017630859624 : True := trivial
theorem whole.tw14877643965249282964 : True := trivial
theorem whole.tw1488662743745869538 : True := trivial
theorem whole.tw14890280090424698046 : True := trivial
theorem whole.tw14916202748087371944 : True := trivial
theorem whole.tw15089273742334493110 : True := trivial
theorem whole.tw15103685750691789098 : True := trivial
theorem whole.tw15141352528195664048 : True := trivial
theorem whole.tw15338273372565686330 : True := trivial
theorem whole.tw15401142651479110994 : True := trivial
theorem whole.tw15564212434770411261 : True := trivial
theorem whole.tw15652777202477211125 : True := trivial
theorem whole.tw15695161780090201225 : True := trivial
theorem whole.tw15716183405302250479 : True := trivial
theorem whole.tw15835130817642446534 : True := trivial
theorem whole.tw1587768003098754325 : True := trivial
theorem whole.tw16062187612904122858 : True := trivial
theorem whole.tw16151222146762293071 : True := trivial
theorem whole.tw16304597587823193687 : True := trivial
theorem whole.tw16316554137538487329 : True := trivial
theorem whole.tw1633898876240874773 : True := trivial
theorem whole.tw1640677438868554593 : True := trivial
theorem whole.tw16529046165737248422 : True := trivial
theorem whole.tw16576061068926947915 : True := trivial
theorem whole.tw16595449952281916149 : True := trivial
theorem whole.tw16616245412964173377 : True := trivial
theorem whole.tw16668768811381343612 : True := trivial
theorem whole.tw16738726308800667447 : True := trivial
theorem whole.tw16896051817165393055 : True := trivial
theorem whole.tw1699034841665187622 : True := trivial
theorem whole.tw17075553230084287909 : True := trivial
theorem whole.tw17128258169734466478 : True := trivial
theorem whole.tw17175008800681467811 : True := trivial
theorem whole.tw17195952149560314771 : True := trivial
theorem whole.tw17395194986337826024 : True := trivial
theorem whole.tw17463027529269885953 : True := trivial
theorem whole.tw17475311184863085016 : True := trivial
theorem whole.tw17529894129228449367 : True := trivial
theorem whole.tw17692944630003236201 : True := trivial
theorem whole.tw17781206938751360472 : True := trivial
theorem whole.tw17789319016849944305 : True := trivial
theorem whole.tw17843127513448600897 : True := trivial
theorem whole.tw17870853324313594786 : True := trivial
theorem whole.tw17881794589497109145 : True := trivial
theorem whole.tw17992364426957274132 : True := trivial
theorem whole.tw18060336119277286115 : True := trivial
theorem whole.tw18135788421098096370 : True := trivial
theorem whole.tw18145388855558949900 : True := trivial
theorem whole.tw18162983195158539490 : True := trivial
theorem whole.tw18174217711786252908 : True := trivial
theorem whole.tw18205533534680786054 : True := trivial
theorem whole.tw18315055452531851272 : True := trivial
theorem whole.tw1902754551582867561 : True := trivial
theorem whole.tw1934810232205804993 : True := trivial
theorem whole.tw2013318861076662011 : True := trivial
theorem whole.tw203428145850139289 : True := trivial
theorem whole.tw2081632904089052959 : True := trivial
theorem whole.tw2083198920140632441 : True := trivial
theorem whole.tw2168223474955763204 : True := trivial
theorem whole.tw2290268214366725154 : True := trivial
theorem whole.tw2362521522948952975 : True := trivial
theorem whole.tw2439357469168130064 : True := trivial
theorem whole.tw254780913952180833 : True := trivial
theorem whole.tw2649048575011448004 : True := trivial
theorem whole.tw2665807779830099079 : True := trivial
theorem whole.tw2781955308351554444 : True := trivial
theorem whole.tw2810508321274664651 : True := trivial
theorem whole.tw285988719286631819 : True := trivial
theorem whole.tw2912573282932879776 : True := trivial
theorem whole.tw2989192609971925910 : True := trivial
theorem whole.tw3085902745639715626 : True := trivial
theorem whole.tw3125283655325999989 : True := trivial
theorem whole.tw3127163415804763599 : True := trivial
theorem whole.tw3141554390599180669 : True := trivial
theorem whole.tw3162365515331879682 : True := trivial
theorem whole.tw3280129329062278201 : True := trivial
theorem whole.tw3479739002732855021 : True := trivial
theorem whole.tw3687826684616867901 : True := trivial
theorem whole.tw369943808078234791 : True := trivial
theorem whole.tw3802398583823018356 : True := trivial
theorem whole.tw381110514646162275 : True := trivial
theorem whole.tw3860174431591174066 : True := trivial
theorem whole.tw3869719713472690019 : True := trivial
theorem whole.tw3904913095024650151 : True := trivial
theorem whole.tw3945383572190744343 : True := trivial
theorem whole.tw397210227534267232 : True := trivial
theorem whole.tw4107823604484434990 : True := trivial
theorem whole.tw4162360135600614074 : True := trivial
theorem whole.tw4163455835068889971 : True := trivial
theorem whole.tw4180466227808675834 : True := trivial
theorem whole.tw4234479992401935053 : True := trivial
theorem whole.tw427333557424167660 : True := trivial
theorem whole.tw4305925821550244790 : True := trivial
theorem whole.tw4338333698743118245 : True := trivial
theorem whole.tw4346055641746905949 : True := trivial
theorem whole.tw4357746044423742650 : True := trivial
theorem whole.tw43722865635132848 : True := trivial
theorem whole.tw437534634077163847 : True := trivial
theorem whole.tw4447922135398794285 : True := trivial
theorem whole.tw4487652198498899664 : True := trivial
theorem whole.tw4490171374547813255 : True := trivial
theorem whole.tw4603890583814415204 : True := trivial
theorem whole.tw4605417425148642151 : True := trivial
theorem whole.tw46433443316919834 : True := trivial
theorem whole.tw4689585835679557668 : True := trivial
theorem whole.tw4725433933799282014 : True := trivial
theorem whole.tw4772658413541480157 : True := trivial
theorem whole.tw4918820536221260690 : True := trivial
theorem whole.tw5001923725869043736 : True := trivial
theorem whole.tw5015864234111024480 : True := trivial
theorem whole.tw5081031077709457048 : True := trivial
theorem whole.tw5137022389394785357 : True := trivial
theorem whole.tw5189780602208921310 : True := trivial
theorem whole.tw5233578499609466721 : True := trivial
theorem whole.tw5277582801102665213 : True := trivial
theorem whole.tw5360207378560713126 : True := trivial
theorem whole.tw5405151241437436114 : True := trivial
theorem whole.tw5408107943391738 : True := trivial
theorem whole.tw5438831827131416888 : True := trivial
theorem whole.tw5477020428343274486 : True := trivial
theorem whole.tw5532809562029925614 : True := trivial
theorem whole.tw5649241889958590350 : True := trivial
theorem whole.tw5702584312116558190 : True := trivial
theorem whole.tw5833760311655045577 : True := trivial
theorem whole.tw5879479702872096659 : True := trivial
theorem whole.tw5938623499991607928 : True := trivial
theorem whole.tw5942346508108547180 : True := trivial
theorem whole.tw6049599900894316688 : True := trivial
theorem whole.tw6065093676875020208 : True := trivial
theorem whole.tw6084657873442493111 : True := trivial
theorem whole.tw6095937858554715304 : True := trivial
theorem whole.tw6097748072631727781 : True := trivial
theorem whole.tw6192170501036255877 : True := trivial
theorem whole.tw6266228650988000492 : True := trivial
theorem whole.tw6356627984389668255 : True := trivial
theorem whole.tw6377287985247879410 : True := trivial
theorem whole.tw6453619897266653623 : True := trivial
theorem whole.tw6496092161831514541 : True := trivial
theorem whole.tw6525215580464160042 : True := trivial
theorem whole.tw6531100040246800141 : True := trivial
theorem whole.tw6612613915786651340 : True := trivial
theorem whole.tw6648197116569056673 : True := trivial
theorem whole.tw6711224856247384401 : True := trivial
theorem whole.tw6734874506966982255 : True := trivial
theorem whole.tw675793542917168019 : True := trivial
theorem whole.tw6772379921613518395 : True := trivial
theorem whole.tw68212649630152069 : True := trivial
theorem whole.tw6866068747796929802 : True := trivial
theorem whole.tw6872907005359335961 : True := trivial
theorem whole.tw6891315699540082446 : True := trivial
theorem whole.tw6933715213461094250 : True := trivial
theorem whole.tw6945632563721245223 : True := trivial
theorem whole.tw7056001396292377188 : True := trivial
theorem whole.tw7072245622303243279 : True := trivial
theorem whole.tw7078629122812257199 : True := trivial
theorem whole.tw7101197657001211085 : True := trivial
theorem whole.tw715978364194892080 : True := trivial
theorem whole.tw7185185305316088854 : True := trivial
theorem whole.tw7187317218736086229 : True := trivial
theorem whole.tw7280849871689594849 : True := trivial
theorem whole.tw7499365098147365621 : True := trivial
theorem whole.tw7509650053966640704 : True := trivial
theorem whole.tw7525632177321363660 : True := trivial
theorem whole.tw7564407027854533171 : True := trivial
theorem whole.tw7576292583959916747 : True := trivial
theorem whole.tw7645621925510333512 : True := trivial
theorem whole.tw7689902935678670512 : True := trivial
theorem whole.tw7856580471358416282 : True := trivial
theorem whole.tw7868544009499267292 : True := trivial
theorem whole.tw7977878525754885090 : True := trivial
theorem whole.tw8109663874093803249 : True := trivial
theorem whole.tw8181180424491326830 : True := trivial
theorem whole.tw8184708281838074206 : True := trivial
theorem whole.tw8258574867067344367 : True := trivial
theorem whole.tw8309436690622926411 : True := trivial
theorem whole.tw8341004590406740810 : True := trivial
theorem whole.tw842793390314483620 : True := trivial
theorem whole.tw8444963059077079450 : True := trivial
theorem whole.tw8602141644225615130 : True := trivial
theorem whole.tw8615399842404961663 : True := trivial
theorem whole.tw8719548228035378133 : True := trivial
theorem whole.tw8799044985600393684 : True := trivial
theorem whole.tw8868806382682364411 : True := trivial
theorem whole.tw8884531897199943920 : True := trivial
theorem whole.tw8894826161267586577 : True := trivial
theorem whole.tw8961415085178454156 : True := trivial
theorem whole.tw9024608533772062355 : True := trivial
theorem whole.tw9046693723037758376 : True := trivial
theorem whole.tw9200330197067421115 : True := trivial
theorem whole.tw9212966250080664162 : True := trivial
theorem whole.tw9235561108164731721 : True := trivial
theorem whole.tw9315315907157715723 : True := trivial
theorem whole.tw9347626172496877827 : True := trivial
theorem whole.tw9406530864695525851 : True := trivial
theorem whole.tw9464417701048127947 : True := trivial
theorem whole.tw949743934663060849 : True := trivial
theorem whole.tw9501391760213346845 : True := trivial
theorem whole.tw9521756469634577901 : True := trivial
theorem whole.tw9625973628771424018 : True := trivial
theorem whole.tw9654072969724333583 : True := trivial
theorem whole.tw9722750020625992282 : True := trivial
theorem whole.tw9775085227918541326 : True := trivial
theorem whole.tw978456291528864041 : True := trivial
theorem whole.tw9787344453429475573 : True := trivial
theorem whole.tw9838295914634562783 : True := trivial
theorem whole.tw9951143050096045611 : True := trivial
open PySem.Calls
set_option Elab.async true in
set_option maxHeartbeats 8000000 in
theorem whole : PySem.Challenge.rw_xm0286_01.Holds := by
  w_on
  o_law
  k_head
  (case hw => w_witness2)
  k_go0
  rename_i hg KX X0 V0 GL T B TE TW m1 m2 M c1 c2 hcd xs hs hlay hl1 hr1 hl2 as1 as2 sa vs as3 hL ra w1 r0 hI hr hc1 hc2 K0 hD h1 F N0
  have hx : xs.length ≤ 63 := by omega
  refine wpAny_mono (law_end KX ⟨by kernel_rfl, by kernel_rfl, by kernel_rfl, by kernel_rfl, by kernel_rfl, by kernel_rfl, by kernel_rfl, by kernel_rfl, by kernel_rfl, by kernel_rfl, by kernel_rfl⟩ T.g T.b T.nolimit T.builtins hL hI hx F rfl rfl rfl rfl (by decide +kernel)) (fun f s' h => ?_) (fun e s' h => h.elim)
  obtain ⟨⟨m', F'⟩, hg', hos, e⟩ := h
  subst e
  refine goodW_bool F' (hg'.trans hg) (raisesW_false ?_) ?_ hos
  · wrow_none_raised
  · wrow_post
end Mine
theorem PySem.Challenge.cw_xm0286_01_holds : PySem.Challenge.rw_xm0286_01.Holds :=
  Mine.whole
