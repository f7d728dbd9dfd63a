import PyProof.Rows.All
import Wide.All
import OpenK.AllK
import Wide.FinOn
import KE.GoesEnum
import KE.KDictZip
import HandS.ForMost
import HandS.Defaults
import HandS.IsInst
import HandS.OwnEq
import HandS.ListItems
import PySem.Challenge.RW_appendlease_k12_whole_each_sign_is_the_l
set_option Elab.async false
set_option linter.all false
/-! Plain lists: putting entries at a place, fillers ahead; what stands is the last put over its place. -/
namespace K12
section
variable {E : Type}
/-- xs put at s into r, fillers f ahead -/
def put (f : E) (r : List E) (s : Nat) (xs : List E) : List E :=
  (r ++ List.replicate (s - r.length) f).take s ++ xs ++ (r ++ List.replicate (s - r.length) f).drop (s + xs.length)
theorem put_length (f : E) (r : List E) (s : Nat) (xs : List E) : (put f r s xs).length = max r.length (s + xs.length) := by
  unfold put
  simp only [List.length_append, List.length_take, List.length_drop, List.length_replicate]
  omega
theorem put_get (f : E) (r : List E) (s : Nat) (xs : List E) (j : Nat) :
    (put f r s xs)[j]? = if j < s then some ((r[j]?).getD f) else if j < s + xs.length then xs[j - s]? else r[j]? := by
  unfold put
  have hl : (r ++ List.replicate (s - r.length) f).length = max r.length s := by
    simp only [List.length_append, List.length_replicate]; omega
  have hg : ∀ k, k < max r.length s → (r ++ List.replicate (s - r.length) f)[k]? = some ((r[k]?).getD f) := fun k hk => by
    by_cases h : k < r.length
    · rw [List.getElem?_append_left h, List.getElem?_eq_getElem h]; rfl
    · have h' : r.length ≤ k := Nat.le_of_not_lt h
      rw [List.getElem?_append_right h', List.getElem?_eq_none h', List.getElem?_replicate, if_pos (by omega)]; rfl
  have ht : ((r ++ List.replicate (s - r.length) f).take s).length = s := by rw [List.length_take, hl]; omega
  by_cases h1 : j < s
  · rw [if_pos h1, List.append_assoc, List.getElem?_append_left (by rw [ht]; exact h1), List.getElem?_take, if_pos h1]
    exact hg j (by omega)
  · rw [if_neg h1, List.append_assoc, List.getElem?_append_right (by rw [ht]; omega), ht]
    by_cases h2 : j < s + xs.length
    · rw [if_pos h2, List.getElem?_append_left (by omega)]
    · rw [if_neg h2, List.getElem?_append_right (by omega), List.getElem?_drop]
      have e : s + xs.length + (j - s - xs.length) = j := by omega
      rw [e]
      by_cases h3 : j < r.length
      · rw [List.getElem?_append_left h3]
      · rw [List.getElem?_eq_none (by rw [hl]; omega), List.getElem?_eq_none (by omega)]
/-- twice is once -/
theorem put_put (f : E) (r : List E) (s : Nat) (xs : List E) : put f (put f r s xs) s xs = put f r s xs := by
  apply List.ext_getElem?
  intro j
  rw [put_get, put_get]
  by_cases h1 : j < s
  · simp [h1]
  · by_cases h2 : j < s + xs.length
    · simp [h1, h2]
    · simp [h1, h2]
/-- what no put touched, ahead -/
theorem put_take (f : E) (r : List E) (s : Nat) (xs : List E) : (put f r s xs).take (min s r.length) = r.take s := by
  apply List.ext_getElem?
  intro j
  rw [List.getElem?_take, List.getElem?_take, put_get]
  by_cases h1 : j < s
  · by_cases h2 : j < r.length
    · rw [if_pos (by omega), if_pos h1, if_pos h1, List.getElem?_eq_getElem h2]; rfl
    · rw [if_neg (by omega), if_pos h1, List.getElem?_eq_none (by omega)]
  · rw [if_neg (by omega), if_neg h1]
/-- .. and behind -/
theorem put_drop (f : E) (r : List E) (s : Nat) (xs : List E) : (put f r s xs).drop (s + xs.length) = r.drop (s + xs.length) := by
  apply List.ext_getElem?
  intro j
  rw [List.getElem?_drop, List.getElem?_drop, put_get, if_neg (by omega), if_neg (by omega)]
/-- one sign more, put by itself -/
theorem put_step (f : E) (r r2 : List E) (s : Nat) (xs : List E) (x : E) (h : put f r2 s [] = put f r s xs) : put f (put f r2 (s + xs.length) [x]) s [] = put f r s (xs ++ [x]) := by
  apply List.ext_getElem?
  intro j
  have hj := congrArg (fun l => l[j]?) h
  simp only [put_get, List.length_nil, Nat.add_zero] at hj
  rw [put_get, put_get, put_get]
  simp only [List.length_nil, Nat.add_zero, List.length_append, List.length_singleton, List.getElem?_append]
  by_cases h1 : j < s
  · simp only [h1, if_true] at hj ⊢
    rw [if_pos (by omega)]
    simpa using hj
  · simp only [h1, if_false] at hj ⊢
    by_cases h2 : j < s + xs.length
    · have h3 : j - s < xs.length := by omega
      have h4 : j < s + (xs.length + 1) := by omega
      simp only [h2, h3, h4, if_true] at hj ⊢
      rw [← hj]
      cases hr : r2[j]? with
      | some y => rfl
      | none =>
        rw [hr, List.getElem?_eq_getElem h3] at hj
        cases hj
    · simp only [h2, if_false] at hj ⊢
      by_cases h3 : j = s + xs.length
      · subst h3
        simp
      · have h4 : ¬ j < s + (xs.length + 1) := by omega
        have h5 : ¬ j < s + xs.length + 1 := by omega
        simp only [h4, h5, if_false]
        exact hj
theorem put_nil_nil (f : E) (r : List E) (s : Nat) : put f (put f r s []) s [] = put f r s [] := put_put f r s []

/-! ### the last put over a place -/
def fold (f : E) (r : List E) (ps : List (Nat × List E)) : List E := ps.foldl (fun r p => put f r p.1 p.2) r
def farG (m : Nat) (ps : List (Nat × List E)) : Nat := ps.foldl (fun m p => max m (p.1 + p.2.length)) m
def far (ps : List (Nat × List E)) : Nat := farG 0 ps
def over (ps : List (Nat × List E)) (j : Nat) : List E := ps.filterMap fun p => if p.1 ≤ j ∧ j < p.1 + p.2.length then p.2[j - p.1]? else none
theorem over_cons (p : Nat × List E) (ps : List (Nat × List E)) (j : Nat) : over (p :: ps) j = (if p.1 ≤ j ∧ j < p.1 + p.2.length then (p.2[j - p.1]?).toList else []) ++ over ps j := by
  unfold over
  rw [List.filterMap_cons]
  by_cases h : p.1 ≤ j ∧ j < p.1 + p.2.length
  · rw [if_pos h, if_pos h]
    cases hx : p.2[j - p.1]? with
    | none => rfl
    | some x => rfl
  · rw [if_neg h, if_neg h]; rfl
theorem fold_get (f : E) : ∀ (ps : List (Nat × List E)) (r : List E) (j : Nat), (fold f r ps)[j]? = if j < farG r.length ps then some ((over ps j).getLastD ((r[j]?).getD f)) else none
  | [], r, j => by
    show r[j]? = if j < r.length then some ((r[j]?).getD f) else none
    by_cases h : j < r.length
    · rw [if_pos h, List.getElem?_eq_getElem h]; rfl
    · rw [if_neg h, List.getElem?_eq_none (by omega)]
  | p :: ps, r, j => by
    show (fold f (put f r p.1 p.2) ps)[j]? = _
    rw [fold_get f ps, put_length]
    show (if j < farG (max r.length (p.1 + p.2.length)) ps then _ else _) = if j < farG (max r.length (p.1 + p.2.length)) ps then _ else _
    congr 2
    rw [over_cons, put_get]
    by_cases h1 : j < p.1
    · have h2 : ¬ (p.1 ≤ j ∧ j < p.1 + p.2.length) := by omega
      rw [if_pos h1, if_neg h2]; rfl
    · rw [if_neg h1]
      by_cases h2 : j < p.1 + p.2.length
      · have h3 : p.1 ≤ j ∧ j < p.1 + p.2.length := ⟨by omega, h2⟩
        have h4 : j - p.1 < p.2.length := by omega
        rw [if_pos h2, if_pos h3, List.getElem?_eq_getElem h4]
        show (over ps j).getLastD p.2[j - p.1] = (p.2[j - p.1] :: over ps j).getLastD _
        cases over ps j <;> rfl
      · have h3 : ¬ (p.1 ≤ j ∧ j < p.1 + p.2.length) := by omega
        rw [if_neg h2, if_neg h3]; rfl
theorem fold_length (f : E) : ∀ (ps : List (Nat × List E)) (r : List E), (fold f r ps).length = farG r.length ps
  | [], _ => rfl
  | p :: ps, r => by
    show (fold f (put f r p.1 p.2) ps).length = _
    rw [fold_length f ps, put_length]; rfl
/-- what stands after the puts: as many as the farthest reached, each the last put over its place, else a filler -/
theorem fold_due (f : E) (ps : List (Nat × List E)) : fold f [] ps = (List.range (far ps)).map fun j => (over ps j).getLastD f := by
  apply List.ext_getElem?
  intro j
  rw [fold_get, List.getElem?_map]
  show (if j < far ps then _ else _) = _
  by_cases h : j < far ps
  · rw [if_pos h, List.getElem?_range h]; rfl
  · rw [if_neg h, List.getElem?_eq_none (by simpa using h)]; rfl
theorem fold_snoc (f : E) (r : List E) (ps : List (Nat × List E)) (p : Nat × List E) : fold f r (ps ++ [p]) = put f (fold f r ps) p.1 p.2 := by
  unfold fold
  rw [List.foldl_append]; rfl
theorem farG_ge (ps : List (Nat × List E)) : ∀ m, m ≤ farG m ps ∧ ∀ p ∈ ps, p.1 + p.2.length ≤ farG m ps := by
  induction ps with
  | nil => exact fun m => ⟨Nat.le_refl _, fun p hp => by cases hp⟩
  | cons q ps ih =>
    intro m
    have h := ih (max m (q.1 + q.2.length))
    show m ≤ farG (max m (q.1 + q.2.length)) ps ∧ ∀ p ∈ q :: ps, p.1 + p.2.length ≤ farG (max m (q.1 + q.2.length)) ps
    refine ⟨by omega, fun p hp => ?_⟩
    rcases List.mem_cons.mp hp with e | hp
    · subst e; omega
    · exact h.2 p hp
theorem farG_le (ps : List (Nat × List E)) : ∀ m b, m ≤ b → (∀ p ∈ ps, p.1 + p.2.length ≤ b) → farG m ps ≤ b := by
  induction ps with
  | nil => exact fun m b h _ => h
  | cons q ps ih =>
    intro m b h k
    show farG (max m (q.1 + q.2.length)) ps ≤ b
    exact ih _ _ (by have := k q (List.mem_cons_self ..); omega) fun p hp => k p (List.mem_cons_of_mem _ hp)
theorem far_snoc (ps : List (Nat × List E)) (p : Nat × List E) : far (ps ++ [p]) = max (far ps) (p.1 + p.2.length) := by
  unfold far farG
  rw [List.foldl_append]; rfl
end
end K12
set_option Elab.async false
set_option linter.all false
set_option maxRecDepth 100000
set_option maxHeartbeats 2000000
/-! list(zip(v1, v2)) over iterators of any kind (Draws), at the library's level: the tuples stay with the list. -/
namespace KZ
open PySem
open PySem.W (kdx_alive)
theorem nolen_zip : typeLookup (.type "zip") "__len__" = pure none := am_miss_of_fast (by decide +kernel)
theorem nohint_zip : typeLookup (.type "zip") "__length_hint__" = pure none := am_miss_of_fast (by decide +kernel)

section
variable {prog : Program} {w : World} {A : Around} {E : Value → Shared → Prop} {s : Shared} {z TI TO i1 i2 : Addr} {fp1 fp2 : List Addr} {n1 n2 i : Nat} {P1 P2 : Nat → Value → Prop} {St1 St2 : Nat → Heap → Prop} {a1 a2 : Value} {T : Addr} {f : Bool} {oT : Obj}

theorem next_item_held {Q : Value → Shared → Prop} (S : ZipSep2 z TI TO i1 i2 fp1 fp2) (D1 : Draws prog w A i1 fp1 n1 P1 St1) (D2 : Draws prog w A i2 fp2 n2 P2 St2)
    (hz : IsZipHeld s.heap z TI TO T f) (hT : s.heap.get? T = some oT) (hTI : IsTupOf2 s.heap TI (.ref i1) (.ref i2)) (st1 : St1 i s.heap) (st2 : St2 i s.heap) (hlt1 : i < n1) (hlt2 : i < n2)
    (hQ : ∀ x1 x2 h' tk, P1 i x1 → P2 i x2 → IsZipHeld h' z TI TO T true → St1 (i + 1) h' → St2 (i + 1) h' → IsTupOf2 h' s.heap.objs.size x1 x2 → h'.objs.size = s.heap.objs.size + 1 →
      (∀ c o, c ≠ z → c ≠ i1 → c ≠ i2 → s.heap.get? c = some o → h'.get? c = some o) → Q (.ref s.heap.objs.size) { s with heap := h', toks := tk }) :
    wpAny (model prog w) A (Builtin.«zip.__next__» ⟨[.ref z], []⟩) (fun fin s' => ∃ v, fin = .done (.ret v) ∧ Q v s') E s := by
  obtain ⟨hp, g, d, tk0, os⟩ := s
  show wpAny _ _ (field (.ref z) 2 >>= _) _ _ _
  refine wpAny_bind (wpAny_field hz rfl (x := .bool false) rfl ?_)
  show wpAny _ _ (field (.ref z) 3 >>= _) _ _ _
  refine wpAny_bind (wpAny_field hz rfl (x := .ref TI) rfl ?_)
  refine wpAny_bind (wpAny_seqItems hTI rfl ?_)
  show wpAny _ _ (Builtin.SmallTypes.ownedTupleIsFree (.ref z) >>= _) _ _ _
  refine wpAny_bind (wpAny_tupleHeld_zip hz hT fun g0 hz0 hs0 => ?_)
  replace hz0 : IsZipHeld g0 z TI TO T true := hz0
  replace hs0 : Heap.SameBut z hp g0 := hs0
  simp only [Bool.false_eq_true, if_false]
  refine wpAny_bind ?_
  rw [← Array.forIn_toList]
  simp only [List.forIn_cons, List.forIn_nil]
  refine wpAny_bind (wpAny_bind (wpAny_holding ?_))
  show wpAny _ _ (Builtin.SmallTypes.nextOf (.ref i1) >>= _) _ _ ⟨g0, g, d, tk0, os⟩
  refine wpAny_bind (D1.item i _ _ _ hlt1 (D1.over st1 hs0 S.zf1) fun x1 p1 tk1 hx1 sn1 hp1 => wpAny_pure ?_)
  replace hp1 : Heap.SameBut i1 g0 p1 := hp1
  refine wpAny_pure ?_
  refine wpAny_bind (wpAny_bind (wpAny_holding ?_))
  show wpAny _ _ (Builtin.SmallTypes.nextOf (.ref i2) >>= _) _ _ ⟨p1, g, d, tk1, os⟩
  refine wpAny_bind (D2.item i _ _ _ hlt2 (D2.over (D2.over st2 hs0 S.zf2) hp1 S.sep1_2) fun x2 p2 tk2 hx2 sn2 hp2 => wpAny_pure ?_)
  replace hp2 : Heap.SameBut i2 p1 p2 := hp2
  refine wpAny_pure (wpAny_pure ?_)
  show wpAny _ _ (newTuple [x1, x2] >>= _) _ _ _
  refine wpAny_bind (wpAny_newTuple ?_)
  have hsz : p2.objs.size = hp.objs.size := by rw [hp2.1, hp1.1, hs0.1]
  have hz₃ : IsZipHeld p2 z TI TO T true := hp2.extBut _ _ S.zi2 (hp1.extBut _ _ S.zi1 hz0)
  have hk : ∀ c o, c ≠ z → c ≠ i1 → c ≠ i2 → hp.get? c = some o → p2.get? c = some o := fun c o c1 c2 c3 e => hp2.extBut _ _ c3 (hp1.extBut _ _ c2 (hs0.extBut _ _ c1 e))
  have hj1 : St1 (i + 1) p2 := D1.over sn1 hp2 S.sep2_1
  refine wpAny_pure ⟨_, rfl, ?_⟩
  show Q (.ref p2.objs.size) _
  have hpt : IsTupOf2 (p2.push { cls := .type "tuple", data := .seq #[x1, x2] }) p2.objs.size x1 x2 := Heap.get?_push_size _ rfl
  have hz4 : (p2.push { cls := .type "tuple", data := .seq #[x1, x2] }).objs.size = p2.objs.size + 1 := Heap.size_push ..
  rw [hsz] at hpt hz4 ⊢
  exact hQ x1 x2 _ tk2 hx1 hx2 (Heap.get?_push_of_some _ hz₃) (D1.frame _ _ _ hj1 fun b _ o e => Heap.get?_push_of_some _ e) (D2.frame _ _ _ sn2 fun b _ o e => Heap.get?_push_of_some _ e) hpt hz4 fun c o c1 c2 c3 e => Heap.get?_push_of_some _ (hk c o c1 c2 c3 e)

theorem next_end_held {Q : Fin → Shared → Prop} (S : ZipSep2 z TI TO i1 i2 fp1 fp2) (D1 : Draws prog w A i1 fp1 n1 P1 St1) (D2 : Draws prog w A i2 fp2 n2 P2 St2)
    (hz : IsZipHeld s.heap z TI TO T f) (hT : s.heap.get? T = some oT) (hTI : IsTupOf2 s.heap TI (.ref i1) (.ref i2)) (st1 : St1 i s.heap) (st2 : St2 i s.heap) (hi : i = n1)
    (hE : ∀ h' tk e, (∀ c o, c ≠ z → c ≠ i1 → c ≠ i2 → s.heap.get? c = some o → h'.get? c = some o) → (∃ o, h'.get? e = some o ∧ o.cls = .type "StopIteration") → E (.ref e) { s with heap := h', toks := tk }) :
    wpAny (model prog w) A (Builtin.«zip.__next__» ⟨[.ref z], []⟩) Q E s := by
  obtain ⟨hp, g, d, tk0, os⟩ := s
  show wpAny _ _ (field (.ref z) 2 >>= _) _ _ _
  refine wpAny_bind (wpAny_field hz rfl (x := .bool false) rfl ?_)
  show wpAny _ _ (field (.ref z) 3 >>= _) _ _ _
  refine wpAny_bind (wpAny_field hz rfl (x := .ref TI) rfl ?_)
  refine wpAny_bind (wpAny_seqItems hTI rfl ?_)
  show wpAny _ _ (Builtin.SmallTypes.ownedTupleIsFree (.ref z) >>= _) _ _ _
  refine wpAny_bind (wpAny_tupleHeld_zip hz hT fun g0 hz0 hs0 => ?_)
  replace hs0 : Heap.SameBut z hp g0 := hs0
  simp only [Bool.false_eq_true, if_false]
  refine wpAny_bind ?_
  rw [← Array.forIn_toList]
  simp only [List.forIn_cons, List.forIn_nil]
  refine wpAny_bind (wpAny_bind (wpAny_holding ?_))
  show wpAny _ _ (Builtin.SmallTypes.nextOf (.ref i1) >>= _) _ _ ⟨g0, g, d, tk0, os⟩
  refine wpAny_bind (D1.done ⟨g0, g, d, tk0, os⟩ _ _ (by rw [← hi]; exact (D1.over st1 hs0 S.zf1)) fun q e hq he => ?_)
  replace hq : Heap.ExtBut i1 g0 q := hq
  exact hE q tk0 e (fun c o cz c1 c2 x => hq _ _ c1 (hs0.extBut _ _ cz x)) he

theorem pyNext_item_held {Q : Option Value → Shared → Prop} (S : ZipSep2 z TI TO i1 i2 fp1 fp2) (D1 : Draws prog w A.in1 i1 fp1 n1 P1 St1) (D2 : Draws prog w A.in1 i2 fp2 n2 P2 St2)
    (hz : IsZipHeld s.heap z TI TO T f) (hT : s.heap.get? T = some oT) (hTI : IsTupOf2 s.heap TI (.ref i1) (.ref i2)) (st1 : St1 i s.heap) (st2 : St2 i s.heap) (hlt1 : i < n1) (hlt2 : i < n2)
    (hQ : ∀ x1 x2 h' tk, P1 i x1 → P2 i x2 → IsZipHeld h' z TI TO T true → St1 (i + 1) h' → St2 (i + 1) h' → IsTupOf2 h' s.heap.objs.size x1 x2 → h'.objs.size = s.heap.objs.size + 1 →
      (∀ c o, c ≠ z → c ≠ i1 → c ≠ i2 → s.heap.get? c = some o → h'.get? c = some o) → Q (some (.ref s.heap.objs.size)) { s with heap := h', toks := tk }) :
    wpAny (model prog w) A (pyNext (.ref z)) Q E s := by
  have hTy : s.TypeIs (.ref z) "zip" := ⟨_, hz, rfl⟩
  unfold pyNext
  exact wpAny_bind (wpAny_attempt (wpAny_callSpecial?_slot (name := Str.ofString "__next__") hTy F.slot_zip_next
    (wpAny_call_entry F.slot_zip_next hTy F.entry_zip_next
      (next_item_held S D1 D2 hz hT hTI st1 st2 hlt1 hlt2 fun x1 x2 h' tk y1 y2 b1 d1 d2 b5 b6 b7 => wpAny_pure (hQ x1 x2 h' tk y1 y2 b1 d1 d2 b5 b6 b7)) (F.args_zip_next_1 _))))
theorem pyNext_end_held {Q : Option Value → Shared → Prop} (S : ZipSep2 z TI TO i1 i2 fp1 fp2) (D1 : Draws prog w A.in1 i1 fp1 n1 P1 St1) (D2 : Draws prog w A.in1 i2 fp2 n2 P2 St2)
    (hz : IsZipHeld s.heap z TI TO T f) (hT : s.heap.get? T = some oT) (hTI : IsTupOf2 s.heap TI (.ref i1) (.ref i2)) (st1 : St1 i s.heap) (st2 : St2 i s.heap) (hi : i = n1)
    (hQ : ∀ h' tk, (∀ c o, c ≠ z → c ≠ i1 → c ≠ i2 → s.heap.get? c = some o → h'.get? c = some o) → Q none { s with heap := h', toks := tk }) : wpAny (model prog w) A (pyNext (.ref z)) Q E s := by
  have hTy : s.TypeIs (.ref z) "zip" := ⟨_, hz, rfl⟩
  unfold pyNext
  refine wpAny_bind (wpAny_attempt (wpAny_callSpecial?_slot (name := Str.ofString "__next__") hTy F.slot_zip_next
    (wpAny_call_entry F.slot_zip_next hTy F.entry_zip_next (next_end_held S D1 D2 hz hT hTI st1 st2 hi fun h' tk e hk he => ?_) (F.args_zip_next_1 _))))
  obtain ⟨o, ho, hc⟩ := he
  refine wpAny_bind (wpAny_isInstance (T := "StopIteration") (b := true) ⟨o, ho, hc⟩ isSubtype_stop ?_)
  exact wpAny_pure (hQ _ _ hk)
end

/-- the zip at turn i, S the list that grows -/
structure ZAt (z TI TO i1 i2 S : Addr) (St1 St2 : Nat → Heap → Prop) (i : Nat) (h : Heap) : Prop where
  ti : IsTupOf2 h TI (.ref i1) (.ref i2)
  s1 : St1 i h
  s2 : St2 i h
  zip : (IsZip h z TI TO .none ∧ ∃ a b, IsTupOf2 h TO a b) ∨ ∃ T f oT, IsZipHeld h z TI TO T f ∧ h.get? T = some oT ∧ T ≠ z ∧ T ≠ i1 ∧ T ≠ i2 ∧ T ≠ S
/-- the tuples made so far -/
structure ZG (P1 P2 : Nat → Value → Prop) (lo : Addr) (h : Heap) (as : List Addr) : Prop where
  rise : as.Pairwise (· < ·)
  above : ∀ a ∈ as, lo < a
  pairs : ∀ (j : Nat) (a : Addr), as[j]? = some a → ∃ x1 x2, P1 j x1 ∧ P2 j x2 ∧ h.get? a = some { cls := .type "tuple", data := .seq #[x1, x2] }
theorem ZG.there {P1 P2 : Nat → Value → Prop} {lo : Addr} {h : Heap} {as : List Addr} (g : ZG P1 P2 lo h as) {a : Addr} (ha : a ∈ as) : a < h.objs.size := by
  obtain ⟨j, hj⟩ := List.mem_iff_getElem?.mp ha
  obtain ⟨_, _, _, _, e⟩ := g.pairs j a hj
  exact Heap.lt_size e

section
variable {prog : Program} {w : World} {A : Around} {E : Value → Shared → Prop} {s : Shared} {z TI TO i1 i2 S : Addr} {fp1 fp2 : List Addr} {n i : Nat} {P1 P2 : Nat → Value → Prop} {St1 St2 : Nat → Heap → Prop}
/-- the list's cell lies apart -/
structure SOff (z TI TO S : Addr) (fp1 fp2 : List Addr) : Prop where
  z : S ≠ z
  ti : S ≠ TI
  to : S ≠ TO
  f1 : S ∉ fp1
  f2 : S ∉ fp2

theorem ZAt.item (X : ZipSep2 z TI TO i1 i2 fp1 fp2) (D1 : Draws prog w A.in1 i1 fp1 n P1 St1) (D2 : Draws prog w A.in1 i2 fp2 n P2 St2) (st : ZAt z TI TO i1 i2 S St1 St2 i s.heap) (hS : S < s.heap.objs.size) (hi : i < n) {Q : Option Value → Shared → Prop}
    (hQ : ∀ x1 x2 h' tk, P1 i x1 → P2 i x2 → ZAt z TI TO i1 i2 S St1 St2 (i + 1) h' → IsTupOf2 h' s.heap.objs.size x1 x2 → h'.objs.size = s.heap.objs.size + 1 →
      (∀ c o, c ≠ z → c ≠ TO → c ≠ i1 → c ≠ i2 → s.heap.get? c = some o → h'.get? c = some o) → Q (some (.ref s.heap.objs.size)) { s with heap := h', toks := tk }) :
    wpAny (model prog w) A (pyNext (.ref z)) Q E s := by
  have lt : ∀ {c o}, s.heap.get? c = some o → s.heap.objs.size ≠ c := fun e => Nat.ne_of_gt (Heap.lt_size e)
  have l1 : s.heap.objs.size ≠ i1 := by obtain ⟨_, e⟩ := D1.live _ _ st.s1; exact lt e
  have l2 : s.heap.objs.size ≠ i2 := by obtain ⟨_, e⟩ := D2.live _ _ st.s2; exact lt e
  rcases st.zip with ⟨hz, a, b, hTO⟩ | ⟨T, f, oT, hz, hT, r1, r2, r3, r4⟩
  · refine wpAny_pyNext_zipD2_item X D1 D2 hz st.ti hTO st.s1 st.s2 hi hi fun x1 x2 h' tk y1 y2 b1 b2 d1 d2 b5 b6 hk => ?_
    exact hQ x1 x2 h' tk y1 y2 ⟨hk _ _ X.TIz X.TITO X.TIi1 X.TIi2 st.ti, d1, d2, .inr ⟨s.heap.objs.size, false, _, b1, b5, lt hz, l1, l2, Nat.ne_of_gt hS⟩⟩ b5 b6 hk
  · refine pyNext_item_held X D1 D2 hz hT st.ti st.s1 st.s2 hi hi fun x1 x2 h' tk y1 y2 b1 d1 d2 b5 b6 hk => ?_
    exact hQ x1 x2 h' tk y1 y2 ⟨hk _ _ X.TIz X.TIi1 X.TIi2 st.ti, d1, d2, .inr ⟨T, true, oT, b1, hk _ _ r1 r2 r3 hT, r1, r2, r3, r4⟩⟩ b5 b6 fun c o c1 _ c3 c4 e => hk c o c1 c3 c4 e
theorem ZAt.done (X : ZipSep2 z TI TO i1 i2 fp1 fp2) (D1 : Draws prog w A.in1 i1 fp1 n P1 St1) (D2 : Draws prog w A.in1 i2 fp2 n P2 St2) (st : ZAt z TI TO i1 i2 S St1 St2 n s.heap) {Q : Option Value → Shared → Prop}
    (hQ : ∀ h' tk, (∀ c o, c ≠ z → c ≠ TO → c ≠ i1 → c ≠ i2 → s.heap.get? c = some o → h'.get? c = some o) → Q none { s with heap := h', toks := tk }) :
    wpAny (model prog w) A (pyNext (.ref z)) Q E s := by
  rcases st.zip with ⟨hz, a, b, hTO⟩ | ⟨T, f, oT, hz, hT, r1, r2, r3, r4⟩
  · exact wpAny_pyNext_zipD2_end X D1 D2 hz st.ti hTO st.s1 st.s2 (Nat.le_refl _) (Nat.le_refl _) (.inl rfl) hQ
  · exact pyNext_end_held X D1 D2 hz hT st.ti st.s1 st.s2 rfl fun h' tk hk => hQ h' tk fun c o c1 _ c3 c4 e => hk c o c1 c3 c4 e
theorem ZAt.frame (X : ZipSep2 z TI TO i1 i2 fp1 fp2) (F : SOff z TI TO S fp1 fp2) (D1 : Draws prog w A.in1 i1 fp1 n P1 St1) (D2 : Draws prog w A.in1 i2 fp2 n P2 St2) {h h' : Heap} (st : ZAt z TI TO i1 i2 S St1 St2 i h)
    (hk : ∀ c o, c ≠ S → h.get? c = some o → h'.get? c = some o) : ZAt z TI TO i1 i2 S St1 St2 i h' where
  ti := hk _ _ F.ti.symm st.ti
  s1 := D1.frame _ _ _ st.s1 fun b hb o e => hk b o (fun q => F.f1 (q ▸ hb)) e
  s2 := D2.frame _ _ _ st.s2 fun b hb o e => hk b o (fun q => F.f2 (q ▸ hb)) e
  zip := by
    rcases st.zip with ⟨hz, a, b, hTO⟩ | ⟨T, f, oT, hz, hT, r1, r2, r3, r4⟩
    · exact .inl ⟨hk _ _ F.z.symm hz, a, b, hk _ _ F.to.symm hTO⟩
    · exact .inr ⟨T, f, oT, hk _ _ F.z.symm hz, hk _ _ r4 hT, r1, r2, r3, r4⟩

theorem loop {R : Result → Shared → Prop} (X : ZipSep2 z TI TO i1 i2 fp1 fp2) (F : SOff z TI TO S fp1 fp2) (D1 : Draws prog w A.in1.in1 i1 fp1 n P1 St1) (D2 : Draws prog w A.in1.in1 i2 fp2 n P2 St2) (hn : n ≤ sizeLine) (res : Value) {h₁ : Heap} {lo : Addr}
    (hlo : z ≤ lo ∧ TI ≤ lo ∧ TO ≤ lo ∧ i1 ≤ lo ∧ i2 ≤ lo ∧ S ≤ lo)
    (hR : ∀ h' tk acc c as, (∀ b o, b ≠ S → b ≠ z → b ≠ TO → b ≠ i1 → b ≠ i2 → h₁.get? b = some o → h'.get? b = some o) → h'.get? S = some { cls := .type "list", dict := none, data := .seq acc c, slots := #[] } → as.length = n → ZG P1 P2 lo h' as →
      acc.toList = as.map Value.ref → R (.ok (.ret res)) { s with heap := h', toks := tk }) :
    ∀ (k i : Nat) (h : Heap) (tk c : Nat) (acc : Array Value) (as : List Addr), n - i = k → i ≤ n → ZAt z TI TO i1 i2 S St1 St2 i h → (∀ b o, b ≠ S → b ≠ z → b ≠ TO → b ≠ i1 → b ≠ i2 → h₁.get? b = some o → h.get? b = some o) →
      h.get? S = some { cls := .type "list", dict := none, data := .seq acc c, slots := #[] } → acc.toList = as.map Value.ref → as.length = i → ZG P1 P2 lo h as → lo < h.objs.size →
      codeAny (model prog w) A (.builtin "list.extend.loop" ⟨[.ref S, .ref z, res], []⟩) R { s with heap := h, toks := tk } := by
  obtain ⟨loz, loTI, loTO, lo1, lo2, loS⟩ := hlo
  have Si1 : S ≠ i1 := fun q => F.f1 (q ▸ X.mem1)
  have Si2 : S ≠ i2 := fun q => F.f2 (q ▸ X.mem2)
  intro k
  induction k with
  | zero =>
    intro i h tk c acc as hk hi hst hkeep hS hacc hal hG hIs
    have hin : i = n := by omega
    subst hin
    refine codeAny_builtin PySem.F.entry_extend_loop ?_
    rw [Around.under_plainId PySem.F.plain_extend_loop _]
    show wpAny _ A.in1 (pyNext (.ref z) >>= _) _ _ _
    refine wpAny_bind (ZAt.done (s := { s with heap := h, toks := tk }) (A := A.in1) X D1 D2 hst fun h' tk' he => ?_)
    refine wpAny_pure (hR h' tk' acc c as (fun b o h1 h2 h3 h4 h5 e => he b o h2 h3 h4 h5 (hkeep b o h1 h2 h3 h4 h5 e)) (he S _ F.z F.to Si1 Si2 hS) (by omega) ⟨hG.rise, hG.above, fun j a hj => ?_⟩ hacc)
    obtain ⟨x1, x2, p1, p2, e3⟩ := hG.pairs j a hj
    have ha := hG.above a (List.mem_of_getElem? hj)
    exact ⟨x1, x2, p1, p2, he a _ (Nat.ne_of_gt (Nat.lt_of_le_of_lt loz ha)) (Nat.ne_of_gt (Nat.lt_of_le_of_lt loTO ha)) (Nat.ne_of_gt (Nat.lt_of_le_of_lt lo1 ha)) (Nat.ne_of_gt (Nat.lt_of_le_of_lt lo2 ha)) e3⟩
  | succ k ih =>
    intro i h tk c acc as hk hi hst hkeep hS hacc hal hG hIs
    have hlt : i < n := by omega
    have hsz : acc.size = i := by rw [← Array.length_toList, hacc, List.length_map, hal]
    refine codeAny_builtin PySem.F.entry_extend_loop ?_
    rw [Around.under_plainId PySem.F.plain_extend_loop _]
    show wpAny _ A.in1 (pyNext (.ref z) >>= _) _ _ _
    refine wpAny_bind (ZAt.item (s := { s with heap := h, toks := tk }) (A := A.in1) X D1 D2 hst (Heap.lt_size hS) hlt fun x1 x2 h' tk' p1 p2 hst' ht hz hkp => ?_)
    dsimp only at ht hz hkp ⊢
    have hS' := hkp S _ F.z F.to Si1 Si2 hS
    have up : ∀ b o, b ≠ S → h'.get? b = some o → (h'.update S (Obj.mapSeq (·.push (Value.ref h.objs.size)))).get? b = some o := fun b o hb e => (Heap.get?_update_other _ _ (Ne.symm hb)).trans e
    have hSl : S < h.objs.size := Heap.lt_size hS
    show wpAny _ A.in1 (updateSeq S (·.push (Value.ref h.objs.size)) >>= _) _ _ _
    refine wpAny_bind ?_
    refine wpAny_updateSeq hS' rfl (wpAny_pure ⟨plainId_quiet PySem.F.plain_extend_loop _, ih (i + 1) _ tk' _ (acc.push (Value.ref h.objs.size)) (as ++ [h.objs.size]) (by omega) hlt (hst'.frame X F D1 D2 up)
      (fun b o h1 h2 h3 h4 h5 e => up b o h1 (hkp b o h2 h3 h4 h5 (hkeep b o h1 h2 h3 h4 h5 e))) (Heap.get?_update_self _ hS' rfl) (by rw [Array.toList_push, hacc, List.map_append]; rfl) (by rw [List.length_append, hal]; rfl) ⟨?_, ?_, ?_⟩ ?_⟩) (by rw [hsz]; omega) (by show (acc.push (Value.ref h.objs.size)).size ≤ sizeLine + 1; rw [Array.size_push, hsz]; omega)
    · refine List.pairwise_append.mpr ⟨hG.rise, List.pairwise_singleton _ _, fun a ha b hb => ?_⟩
      rw [List.mem_singleton.mp hb]
      exact hG.there ha
    · intro a ha
      rcases List.mem_append.mp ha with ha | ha
      · exact hG.above a ha
      · rw [List.mem_singleton.mp ha]; exact hIs
    · intro j b hj
      rcases Nat.lt_trichotomy j as.length with h1 | h1 | h1
      · rw [List.getElem?_append_left h1] at hj
        obtain ⟨y1, y2, q1, q2, e3⟩ := hG.pairs j b hj
        have hb := hG.above b (List.mem_of_getElem? hj)
        exact ⟨y1, y2, q1, q2, up b _ (Nat.ne_of_gt (Nat.lt_of_le_of_lt loS hb)) (hkp b _ (Nat.ne_of_gt (Nat.lt_of_le_of_lt loz hb)) (Nat.ne_of_gt (Nat.lt_of_le_of_lt loTO hb)) (Nat.ne_of_gt (Nat.lt_of_le_of_lt lo1 hb)) (Nat.ne_of_gt (Nat.lt_of_le_of_lt lo2 hb)) e3)⟩
      · subst h1
        have hb : h.objs.size = b := by simpa using hj
        subst hb
        exact ⟨x1, x2, by subst hal; exact p1, by subst hal; exact p2, up _ _ (Nat.ne_of_gt hSl) ht⟩
      · have hnone : (as ++ [h.objs.size])[j]? = none := List.getElem?_eq_none (by rw [List.length_append, List.length_singleton]; omega)
        rw [hnone] at hj; cases hj
    · have e : (h'.update S (Obj.mapSeq (·.push (Value.ref h.objs.size)))).get? h.objs.size = _ := up _ _ (Nat.ne_of_gt hSl) ht
      exact Nat.lt_trans hIs (Heap.lt_size e)
end

section
variable {prog : Program} {w : World} {A : Around} {E : Value → Shared → Prop} {s : Shared} {z TI TO i1 i2 : Addr} {fp1 fp2 : List Addr} {n : Nat} {P1 P2 : Nat → Value → Prop} {St1 St2 : Nat → Heap → Prop}
theorem hint {r : Addr} (hT : s.TypeIs (.ref r) "zip") {Q : Bool → Shared → Prop} (h : Q true s) : wpAny (model prog w) A (Builtin.List.listLengthHint (.ref r)) Q E s := by
  unfold Builtin.List.listLengthHint
  refine wpAny_bind (wpAny_specialOf hT nolen_zip ?_)
  show wpAny _ _ (specialOf (Value.ref r) (Str.ofString "__length_hint__") >>= _) _ _ _
  refine wpAny_bind (wpAny_specialOf hT nohint_zip ?_)
  exact wpAny_pure h
theorem zipType {h : Heap} {S i} (st : ZAt z TI TO i1 i2 S St1 St2 i h) {g d tk os} : (⟨h, g, d, tk, os⟩ : Shared).TypeIs (.ref z) "zip" := by
  rcases st.zip with ⟨hz, _⟩ | ⟨T, f, oT, hz, _⟩
  · exact ⟨_, hz, rfl⟩
  · exact ⟨_, hz, rfl⟩
theorem call (X : ZipSep2 z TI TO i1 i2 fp1 fp2) (D1 : Draws prog w A.in1.in1.in1 i1 fp1 n P1 St1) (D2 : Draws prog w A.in1.in1.in1 i2 fp2 n P2 St2) (hn : n ≤ sizeLine)
    (hz : IsZip s.heap z TI TO .none) (hTI : IsTupOf2 s.heap TI (.ref i1) (.ref i2)) (hTO : ∃ a b, IsTupOf2 s.heap TO a b) (st1 : St1 0 s.heap) (st2 : St2 0 s.heap) (hf1 : ∀ b ∈ fp1, b < s.heap.objs.size) (hf2 : ∀ b ∈ fp2, b < s.heap.objs.size) {Q : Value → Shared → Prop}
    (hQ : ∀ h' tk acc c as, (∀ b o, b ≠ z → b ≠ TO → b ≠ i1 → b ≠ i2 → s.heap.get? b = some o → h'.get? b = some o) → h'.get? s.heap.objs.size = some { cls := .type "list", dict := none, data := .seq acc c, slots := #[] } → as.length = n → ZG P1 P2 s.heap.objs.size h' as →
      acc.toList = as.map Value.ref → Q (.ref s.heap.objs.size) { s with heap := h', toks := tk }) :
    wpAny (model prog w) A (PySem.call (.type "list") [.ref z]) Q E s := by
  obtain ⟨hp, gs, dr, tk0, os⟩ := s
  refine callType_codes (Q₁ := fun obj s₁ => obj = .ref hp.objs.size ∧ s₁ = ⟨hp.push { cls := .type "list", data := .seq #[] }, gs, dr, tk0, os⟩) PySem.F.called_list (PySem.F.typeCall_list_1 _) PySem.F.entry_list_init
    (code_list_new _ ⟨rfl, rfl⟩) fun obj s₁ h₁ => ?_
  obtain ⟨rfl, rfl⟩ := h₁
  have hS : (hp.push { cls := .type "list", data := .seq #[] }).get? hp.objs.size = some { cls := .type "list", data := .seq #[] } := Heap.get?_push_size _ rfl
  have lz : z < hp.objs.size := Heap.lt_size hz
  have lTI : TI < hp.objs.size := Heap.lt_size hTI
  obtain ⟨a0, b0, hTO⟩ := hTO
  have lTO : TO < hp.objs.size := Heap.lt_size hTO
  have F : SOff z TI TO hp.objs.size fp1 fp2 := ⟨Nat.ne_of_gt lz, Nat.ne_of_gt lTI, Nat.ne_of_gt lTO, fun h => Nat.lt_irrefl _ (hf1 _ h), fun h => Nat.lt_irrefl _ (hf2 _ h)⟩
  have st0 : ZAt z TI TO i1 i2 hp.objs.size St1 St2 0 (hp.push { cls := .type "list", data := .seq #[] }) := by
    have up : ∀ b o, hp.get? b = some o → (hp.push { cls := .type "list", data := .seq #[] }).get? b = some o := fun b o e => Heap.get?_push_of_some _ e
    exact ⟨up _ _ hTI, D1.frame _ _ _ st1 fun b _ o e => up b o e, D2.frame _ _ _ st2 fun b _ o e => up b o e, .inl ⟨up _ _ hz, a0, b0, up _ _ hTO⟩⟩
  refine ⟨⟨_, hS, rfl⟩, PySem.F.args_list_init_2 _ _, ?_⟩
  show wpAny _ _ (do let old ← Builtin.List.listItems (.ref hp.objs.size); Builtin.List.listUpdate (.ref hp.objs.size) (fun _ => #[]); letGo old.toList.reverse; Builtin.List.listExtendWith (.ref hp.objs.size) (.ref z) .none) _ _ _
  refine wpAny_bind ?_
  unfold Builtin.List.listItems
  refine wpAny_bind (wpAny_seqItems hS rfl (wpAny_pure ?_))
  show wpAny _ _ (updateSeq hp.objs.size (fun _ => #[]) >>= fun _ => letGo (#[] : Array Value).toList.reverse >>= fun _ => Builtin.List.listExtendWith (.ref hp.objs.size) (.ref z) .none) _ _ _
  refine wpAny_bind (wpAny_updateSeq hS rfl ?_)
  have hS₂ := Heap.get?_update_self (Obj.mapSeq (fun _ => (#[] : Array Value))) hS rfl
  have oth : ∀ b o, b ≠ hp.objs.size → (hp.push { cls := .type "list", data := .seq #[] }).get? b = some o → ((hp.push { cls := .type "list", data := .seq #[] }).update hp.objs.size (Obj.mapSeq (fun _ => (#[] : Array Value)))).get? b = some o :=
    fun b o hb e => (Heap.get?_update_other _ _ (Ne.symm hb)).trans e
  have st2' := st0.frame X F D1 D2 oth
  refine wpAny_bind (wpAny_letGo ?_)
  unfold Builtin.List.listExtendWith
  refine wpAny_bind (wpAny_typeOf (zipType st2') ?_)
  have h1 : Builtin.List.listSameRef (.ref hp.objs.size) (.ref z) = false := by simp [Builtin.List.listSameRef, F.z]
  have h2 : (Value.type "zip" == Value.type "list") = false := by decide
  have h3 : (Value.type "zip" == Value.type "tuple") = false := by decide
  simp only [h1, h2, h3, Bool.or_false, Bool.false_eq_true, if_false]
  have hz2 : IsZip ((hp.push { cls := .type "list", data := .seq #[] }).update hp.objs.size (Obj.mapSeq (fun _ => (#[] : Array Value)))) z TI TO .none := oth _ _ F.z.symm (Heap.get?_push_of_some _ hz)
  refine wpAny_bind (wpAny_pyIter_zip hz2 ?_)
  refine wpAny_bind (wpAny_holding (hint (zipType st2') ?_))
  refine wpAny_ite_split (fun _ => ?_) (fun hab => absurd (by decide +kernel) hab)
  refine wpAny_bind (wpAny_rule ?_)
  refine wpAny_bind ?_
  show wpAny _ _ (updateSeq hp.objs.size (·.push .none) >>= fun _ => updateSeq hp.objs.size (·.pop)) _ _ _
  refine wpAny_bind (wpAny_updateSeq hS₂ rfl ?_)
  have hS₃ := Heap.get?_update_self (Obj.mapSeq (·.push Value.none)) hS₂ rfl
  refine wpAny_updateSeq (hz := by seq_fits) hS₃ rfl ?_
  have hS₄ := Heap.get?_update_self (Obj.mapSeq (·.pop)) hS₃ rfl
  have oth2 : ∀ b o, b ≠ hp.objs.size → ((hp.push { cls := .type "list", data := .seq #[] }).update hp.objs.size (Obj.mapSeq (fun _ => (#[] : Array Value)))).get? b = some o →
      ((((hp.push { cls := .type "list", data := .seq #[] }).update hp.objs.size (Obj.mapSeq (fun _ => (#[] : Array Value)))).update hp.objs.size (Obj.mapSeq (·.push Value.none))).update hp.objs.size (Obj.mapSeq (·.pop))).get? b = some o :=
    fun b o hb e => (Heap.get?_update_other _ _ (Ne.symm hb)).trans ((Heap.get?_update_other _ _ (Ne.symm hb)).trans e)
  have st3 := st2'.frame X F D1 D2 oth2
  have li1 : i1 < hp.objs.size := hf1 _ X.mem1
  have li2 : i2 < hp.objs.size := hf2 _ X.mem2
  refine wpAny_pure ⟨plainId_quiet PySem.F.plain_extend_loop _, loop (s := ⟨hp, gs, dr, tk0, os⟩) (A := A.in1) X F D1 D2 hn .none (h₁ := hp) (lo := hp.objs.size) ⟨Nat.le_of_lt lz, Nat.le_of_lt lTI, Nat.le_of_lt lTO, Nat.le_of_lt li1, Nat.le_of_lt li2, Nat.le_refl _⟩
    (fun h' tk acc c as hk hS' hl hG hacc => ⟨rfl, hQ h' tk acc c as (fun b o c1 c2 c3 c4 e => hk b o (Nat.ne_of_lt (Heap.lt_size e)) c1 c2 c3 c4 e) hS' hl hG hacc⟩)
    n 0 _ tk0 _ _ [] (Nat.sub_zero _) (Nat.zero_le _) st3 (fun b o c0 _ _ _ _ e => oth2 b o c0 (oth b o c0 (Heap.get?_push_of_some _ e))) hS₄ rfl rfl ⟨List.Pairwise.nil, (fun _ ha => nomatch ha), (fun j a hj => by simp at hj)⟩ (Heap.lt_size hS₄)⟩
end
end KZ
set_option Elab.async false
set_option linter.all false
set_option maxRecDepth 100000
set_option maxHeartbeats 2000000
/-! Rules that the layer lacks: text * int, o.m(e, k = v), enumerate(text), list(zip(text, list)). -/
namespace K12
open PySem PySem.Spec PyProof.Rows L2

/-! ### one sign * int -/
theorem rep_one (c : Nat) : ∀ (n : Nat) (acc : Array Nat), (List.replicate n #[c]).foldl (· ++ ·) acc = acc ++ (List.replicate n c).toArray
  | 0, acc => by simp
  | n + 1, acc => by
    rw [List.replicate_succ, List.foldl_cons, rep_one c n, List.replicate_succ]
    apply Array.ext'
    simp
def rMulS : R2 := fun x y H Q => ∃ (c : Nat) (k : Int), x = .str ⟨#[c]⟩ ∧ y = .int k ∧ 0 ≤ k ∧ k ≤ 1000 ∧ Q (.str ⟨(List.replicate k.toNat c).toArray⟩) H
theorem mul_sign (c : Nat) (k : Int) (h0 : 0 ≤ k) : Txt.mul ⟨#[c]⟩ k = ⟨(List.replicate k.toNat c).toArray⟩ := by
  unfold Txt.mul
  by_cases h1 : k < 1
  · have e : k = 0 := by omega
    subst e
    rfl
  · rw [if_neg h1]
    by_cases h2 : k = 1
    · subst h2; rfl
    · have h3 : ¬ (k == 1 || (⟨#[c]⟩ : Str).length == 0) = true := by
        simp only [Bool.or_eq_true, beq_iff_eq, not_or]
        exact ⟨h2, Nat.one_ne_zero⟩
      rw [if_neg h3, rep_one]
      simp
theorem op_mulS {X : Cx} : OpR X (binaryOp .Mult) rMulS := by
  intro pins s σ H x y v u Q I rx ry h
  obtain ⟨c, k, rfl, rfl, h0, h1, q⟩ := h
  obtain ⟨t, rfl⟩ := rx
  obtain ⟨t', rfl⟩ := ry
  have hl : (⟨#[c]⟩ : Str).length = 1 := rfl
  refine PySem.SB.mul ⟨?_, fun _ _ => ?_, fun _ _ => ?_⟩ fun t' k' => ⟨.str _, H, I.tok _, ⟨t', by rw [mul_sign c k h0]⟩, q⟩
  · have a : ¬ k < -(2 ^ 63 : Int) := by omega
    have b : ¬ k ≥ 2 ^ 63 := by omega
    rw [decide_eq_false a, decide_eq_false b]; rfl
  · rw [hl]
    have hk : 0 < k := by omega
    have : (1 : Int) ≤ (2 ^ 63 - 1) / k := by
      rw [Int.le_ediv_iff_mul_le hk]
      omega
    show ¬ ((1 : Nat) : Int) > (2 ^ 63 - 1) / k
    omega
  · unfold Builtin.Str.tooLong
    rw [hl]
    have : k.toNat ≤ 1000 := by omega
    have h2 : (1000 : Nat) ≤ sizeLine := by rw [sizeLine_eq]; decide
    rw [decide_eq_false (by omega)]

/-! ### o.m(e, .., k = v, ..) -/
def tMethN (C : Addr) (m : Str) (n j : Nat) (sp : Sp) (gV : List V → List V → List V) (E : XK) (ta : TE) (t tk : TA) : TE := fun σ H Q => ta σ H fun x H1 => ∃ a dx fs, x = .ref a ∧ H1 a = some (.ins C dx fs) ∧ fs.lookup m = none ∧
  t σ H1 fun vs H2 => tk σ H2 fun zs H3 => (x :: vs).length = n ∧ zs.length = j ∧ sp (gV (x :: vs) zs) H3 Q E
section
variable {X : Cx} {CX : CXT} {k n : Nat} {f C : Addr} {fd : FuncData} {ps ks : List Str} {sp : Sp} {E : XK} {m : Str} {p pos apos : Pos} {e o : Expr} {es : List Expr} {kws : List Keyword} {ta : TE} {t tk : TA} {g : List Value → List Value → List Value} {gV : List V → List V → List V}
theorem pe_methN {pl : Sem Bool} (he : PE X o ta) (c : Cls X.K C) (hm : Meth X.K C m f) (F : FnOk X.prog X.w X.K X.mg X.base CX k f fd ps sp) (hr : Room k X.A) (hb : KBn X.K fd ps n ks g gV) (hx : Passes CX X E) (ha : PA X (e :: es) t) (hkw : PK X kws tk)
    (hall : (backToKw pos (keywordEach kws X.env)).all (·.1.isSome) = true := by rfl) (hks : (backToKw pos (keywordEach kws X.env)).filterMap (·.1) = ks := by rfl)
    (hst : starEach (e :: es) X.env = (false, eval e X.env) :: starEach es X.env := by rfl)
    (hpl : ((backTo pos (starEach (e :: es) X.env)).any (·.1) || (backToKw pos (keywordEach kws X.env)).any (·.1.isNone)) = false := by rfl)
    (ht : eval (.Call (.Attribute o m apos) (e :: es) kws pos) X.env = (do
      let ov ← eval o X.env
      standAt apos.atName
      let (f, first) ← holding [ov] (getMethod ov m pl)
      callWith pos f first (backTo pos (starEach (e :: es) X.env)) (backToKw pos (keywordEach kws X.env))) := by rfl) :
    PE X (.Call (.Attribute o m apos) (e :: es) kws pos) (tMethN C m n ks.length sp gV E ta t tk) := by
  refine ⟨fun pins s σ H Q I h => ?_⟩
  refine PySem.W.methodCall_KW (pl := pl) (thn (he.run pins s σ H _ I h) fun u s1 ⟨x, H1, I1, rx, a, dx, fs, ex, ea, l, q⟩ => ?_) ht
  subst ex
  obtain rfl : u = Value.ref a := rx
  refine getmeth_ok I1 ea c hm l ?_
  refine PySem.W.callWith_KW (first := [.ref a]) (h₀ := X.base) I.ok.mod.kin hm.kp hall (thn (ha.run pos pins s1 σ H1 _ I1 q) fun us s2 ⟨vs, H2, I2, r, q2⟩ => ?_) hpl hst
  refine thn (hkw.run pos pins s2 σ H2 _ I2 q2) fun ws s3 ⟨zs, H3, I3, rz, l1, l2, q3⟩ => ⟨I3.kIn, ?_⟩
  rw [hks]
  exact run_fnN (us := .ref a :: us) (vs := .ref a :: vs) F hr hb hx I3 (.cons rfl r) rz l1 l2 q3
end

/-! ### for i, c in enumerate(text) -/
/-- each sign of the text in a new pair -/
def ItE (x : Str) : It :=
  ⟨fun i _ => i < x.cps.size, fun i H v H' => ∃ (T : Addr) (c : Nat), v = .ref T ∧ H T = none ∧ H' = upd H T (.tup [.int (i : Nat), .str ⟨#[c]⟩]) ∧ x.cps[i]? = some c, fun i _ => i = x.cps.size⟩
theorem turn_enumS {P : Program} {w : World} {K : PySem.W.Frag} {elts : List Expr} {kk : Nat} {tpos : Pos} (x : Str) (t : Tok) (e it : Addr) :
    Turn P w K (.Tuple elts kk tpos) (ItE x) [e, it] e (fun i h => (∃ old, IsEnum h e it ((i : Nat) : Int) old) ∧ h.IsStrIter it (strIterType x) x t i ∧ e ≠ it) where
  mem := by simp
  obj := fun i h st b hb => by
    obtain ⟨⟨old, he⟩, ⟨o, ho, hc, hd⟩, _⟩ := st
    have e' : b = e ∨ b = it := by simpa using hb
    rcases e' with z | z
    · rw [z]; exact ⟨_, he, fun v q => nomatch q⟩
    · rw [z]; exact ⟨o, ho, fun v q => by rw [hd] at q; cases q⟩
  keep := fun i h h' st k => let ⟨⟨old, he⟩, ⟨o, ho, r⟩, hne⟩ := st; ⟨⟨old, k e (by simp) _ he⟩, ⟨o, k it (by simp) o ho, r⟩, hne⟩
  item := by
    intro X hP hw hK hc i pins s σ H E I hf st hg
    subst hP hw hK
    obtain ⟨⟨old, he⟩, hit, hne⟩ := st
    have hel : e < s.heap.objs.size := Heap.lt_size he
    have hil : it < s.heap.objs.size := by obtain ⟨_, q, _⟩ := id hit; exact Heap.lt_size q
    have D : Draws X.prog X.w X.A.in1 it [it] x.cps.size _ _ := Draws.text (A := X.A.in1) (show X.A.in1.handled = none from I.ok.hd hc) it x t
    refine wpAny_pyNext_enum_itemD D he hit hg hne (by simpa using hne) fun u h' tk hP ho hit' hT hsz hk => ?_
    obtain ⟨c, u', hcx, rfl⟩ := hP
    refine ⟨_, rfl, wpAny_letOwnedTupleGo_enum (s := { s with heap := h', toks := tk + 1 }) ho fun h'' he' sb => ?_⟩
    have hT2 : h''.get? s.heap.objs.size = some { cls := .type "tuple", data := .seq #[.int i tk, .str ⟨#[c]⟩ u'] } := (sb.2 _ (Nat.ne_of_gt hel)).trans hT
    have new : ObjOk X.prog X.w (upd H s.heap.objs.size (.tup [.int (i : Nat), .str ⟨#[c]⟩])) h'' s.heap.objs.size (.tup [.int (i : Nat), .str ⟨#[c]⟩]) :=
      ⟨by show 2 ≤ sizeLine; decide, [.int i tk, .str ⟨#[c]⟩ u'], .cons ⟨_, rfl⟩ (.cons ⟨_, rfl⟩ .nil), ⟨_, hT2, rfl, _, rfl⟩⟩
    have I1 : Inv X pins σ (upd H s.heap.objs.size (.tup [.int (i : Nat), .str ⟨#[c]⟩])) { s with heap := h'', toks := tk + 1 } :=
      I.turnedNew (ch := [e, it]) (fun b ob hb q => (sb.2 b (fun z => hb (by simp [z]))).trans (hk b ob (fun z => hb (by simp [z])) (fun z => hb (by simp [z])) q)) hf (Nat.le_refl _) new
    refine ⟨.ref s.heap.objs.size, _, I1, rfl, ⟨_, c, rfl, I.hok.fresh (Nat.le_refl _), rfl, hcx⟩, ⟨⟨.str ⟨#[c]⟩ u', ?_⟩, ?_, hne⟩, fun b hb => ?_⟩
    · have e1 : ((i + 1 : Nat) : Int) = (i : Int) + 1 := by omega
      rw [e1]; exact he'
    · obtain ⟨o, q, r⟩ := hit'
      exact ⟨o, (sb.2 it (Ne.symm hne)).trans q, r⟩
    · have hb' : b < s.heap.objs.size := by
        have e' : b = e ∨ b = it := by simpa using hb
        rcases e' with z | z
        · rw [z]; exact hel
        · rw [z]; exact hil
      rw [upd_ne (Nat.ne_of_lt hb')]
      exact (hf b hb).1
  done := by
    intro X hP hw hK hc i pins s σ H E I hf st hg
    subst hP hw hK
    have hg' : i = x.cps.size := hg
    subst hg'
    obtain ⟨⟨old, he⟩, hit, hne⟩ := st
    obtain ⟨f0, f1, f2, f3, f4, f5⟩ := hf it (by simp)
    have D : Draws X.prog X.w X.A.in1 it [it] x.cps.size _ _ := Draws.text (A := X.A.in1) (show X.A.in1.handled = none from I.ok.hd hc) it x t
    exact wpAny_pyNext_enum_endD D he hit fun h' eb => ⟨rfl, I.turned (t' := s.toks) (fun b o hb q => eb b o hb q) f0 f1 f3 f4 f5⟩
  self := fun A i s Q E st h => let ⟨⟨_, he⟩, _⟩ := st; wpAny_pyIter_enum he h
def iEnumS (ta : TA) : TI := fun σ H R => ta σ H fun vs H1 => ∃ z, vs = [.str z] ∧ R (ItE z) H1
theorem pi_enumS {X : Cx} {e : Expr} {ta : TA} {p pos tpos : Pos} {elts : List Expr} {kk : Nat} (hg : Gl X "enumerate") (hm : X.mg "enumerate" = none) (ha : PA X [e] ta) (hs : starEach [e] X.env = [(false, eval e X.env)] := by rfl) :
    PI X (.Tuple elts kk tpos) (.Call (.Name "enumerate" p) [e] [] pos) (iEnumS ta) := by
  refine ⟨fun pins s σ H R I h => ?_⟩
  refine Call_ (ld_blt I hg hm boot_enumerate (PyProof.Rows.callWith_type1 (thn (ha.run pos pins s σ H _ I h) fun us s1 ⟨vs, H1, I1, r1, q1⟩ => ?_) hs rfl))
  obtain ⟨z, ex, q⟩ := q1
  subst ex
  cases r1 with
  | cons r rr =>
    cases rr
    obtain ⟨t, rfl⟩ := r
    refine call_enumerate_str fun h' he hit hsz hk => wpAny_pyIter_enum he ?_
    have I2 : Inv X pins σ H1 { s1 with heap := h' } := I1.kept (t' := s1.toks) hk
    refine ⟨s1.heap.objs.size + 1, [s1.heap.objs.size + 1, s1.heap.objs.size], _, _, H1, rfl, I2, turn_enumS z t (s1.heap.objs.size + 1) s1.heap.objs.size, ⟨⟨.none, he⟩, hit, Nat.succ_ne_self _⟩, fun b hb => ?_, q⟩
    have e' : b = s1.heap.objs.size + 1 ∨ b = s1.heap.objs.size := by simpa using hb
    have hle : s1.heap.objs.size ≤ b := by
      rcases e' with z | z
      · rw [z]; exact Nat.le_add_right _ _
      · rw [z]; exact Nat.le_refl _
    exact I1.fpOk hle (I1.hok.fresh hle)
/-- the loop, by an invariant over the turn -/
theorem for_enumS {x : Str} {g : TG} {tb : TS} {D : Ends} {σ : L2.St} {H : Hp} (Pv : Nat → L2.St → Hp → Prop) (h0 : Pv 0 σ H)
    (hs : ∀ (i : Nat) (c : Nat) (T : Addr) (σ : L2.St) (H : Hp), x.cps[i]? = some c → Pv i σ H → H T = none → g (.ref T) σ (upd H T (.tup [.int (i : Nat), .str ⟨#[c]⟩])) fun σ2 H2 => tb { D with nx := Pv (i + 1), ct := Pv (i + 1), bk := D.nx } σ2 H2)
    (hd : ∀ σ H, Pv x.cps.size σ H → D.nx σ H) :
    ∃ W : Nat → Nat → L2.St → Hp → Prop, (∃ m, W 0 m σ H) ∧ ∀ i m σ H, W i m σ H → ((ItE x).stop i H ∧ D.nx σ H) ∨ ((ItE x).go i H ∧ ∃ N : L2.St → Hp → Prop, (∀ σ' H', N σ' H' → ∃ m', m' < m ∧ W (i + 1) m' σ' H') ∧
      ∀ y H', (ItE x).yld i H y H' → g y σ H' fun σ2 H2 => tb { D with nx := N, ct := N, bk := D.nx } σ2 H2) := by
  refine ⟨fun i m σ H => m = x.cps.size - i ∧ i ≤ x.cps.size ∧ Pv i σ H, ⟨x.cps.size, by simp, Nat.zero_le _, h0⟩, ?_⟩
  rintro i m σ H ⟨rfl, hi, p⟩
  by_cases hlt : i < x.cps.size
  · refine .inr ⟨hlt, Pv (i + 1), fun σ' H' p' => ⟨x.cps.size - (i + 1), by omega, rfl, hlt, p'⟩, fun y H' hy => ?_⟩
    obtain ⟨T, c, rfl, nT, rfl, hc⟩ := hy
    exact hs i c T σ H hc p nT
  · have e : i = x.cps.size := by omega
    subst e
    exact .inl ⟨rfl, hd σ H p⟩

/-! ### list(zip(text, list)) -/
/-- tuples tracked at their addresses -/
def putT : Hp → List Addr → List (List V) → Hp
  | H, a :: as, p :: ps => putT (upd H a (.tup p)) as ps
  | H, _, _ => H
theorem putT_off {b : Addr} : ∀ (as : List Addr) (ps : List (List V)) (H : Hp), b ∉ as → putT H as ps b = H b
  | [], _, _, _ => rfl
  | _ :: _, [], _, _ => rfl
  | a :: as, p :: ps, H, h => by
    show putT (upd H a (.tup p)) as ps b = H b
    rw [putT_off as ps _ (fun z => h (List.mem_cons_of_mem _ z)), upd_ne (fun z => h (by rw [z]; exact List.mem_cons_self))]
theorem putT_at : ∀ (as : List Addr) (ps : List (List V)) (H : Hp), as.length = ps.length → as.Nodup → Paired (fun (t : Addr) (p : List V) => putT H as ps t = some (.tup p)) as ps
  | [], [], _, _, _ => .nil
  | [], _ :: _, _, h, _ => by cases h
  | _ :: _, [], _, h, _ => by cases h
  | a :: as, p :: ps, H, h, hn => by
    have hn' := List.nodup_cons.mp hn
    have ih := putT_at as ps (upd H a (.tup p)) (Nat.succ.inj h) hn'.2
    refine .cons ?_ ih
    show putT (upd H a (.tup p)) as ps a = some (.tup p)
    rw [putT_off as ps _ hn'.1, upd_same]
theorem tups_laid {X : Cx} {pins : List (Addr × Obj)} {σ : L2.St} {H : Hp} {s : Shared} {h' : Heap} {tk : Nat} {S : Addr} {ps : List (List V)} {acc : Array Value} {c : Nat} {as : List Addr} (I : Inv X pins σ H s) (hz : ps.length ≤ sizeLine)
    (hk : ∀ b o, s.heap.get? b = some o → h'.get? b = some o) (hSz : s.heap.objs.size ≤ S) (hS : h'.get? S = some { cls := .type "list", dict := none, data := .seq acc c, slots := #[] }) (hl : as.length = ps.length)
    (rise : as.Pairwise (· < ·)) (above : ∀ a ∈ as, S < a) (hP : ∀ (j : Nat) (a : Addr) (p : List V), as[j]? = some a → ps[j]? = some p → p.length ≤ sizeLine ∧ ∃ its, Vals p its ∧ h'.get? a = some { cls := .type "tuple", data := .seq its.toArray }) (hacc : acc.toList = as.map Value.ref) :
    ∃ H' : Hp, (∀ b o, H b = some o → H' b = some o) ∧ H S = none ∧ (∀ t ∈ as, H t = none) ∧ S ∉ as ∧ H' S = some (.lst (as.map V.ref)) ∧ Paired (fun (t : Addr) (q : List V) => H' t = some (.tup q)) as ps ∧ Inv X pins σ H' { s with heap := h', toks := tk } := by
  have hSn : S ∉ as := fun z => Nat.lt_irrefl _ (above _ z)
  have nd : as.Nodup := List.Pairwise.imp (fun {a b} (h : a < b) => Nat.ne_of_lt h) rise
  have new : ∀ t ∈ as, H t = none := fun t ht => I.hok.fresh (Nat.le_of_lt (Nat.lt_of_le_of_lt hSz (above t ht)))
  have newS : H S = none := I.hok.fresh hSz
  have atP := putT_at as ps (upd H S (.lst (as.map V.ref))) hl nd
  have off : ∀ b, b ∉ as → b ≠ S → putT (upd H S (.lst (as.map V.ref))) as ps b = H b := fun b h1 h2 => by rw [putT_off as ps _ h1, upd_ne h2]
  have low : ∀ b o, s.heap.get? b = some o → b ∉ as ∧ b ≠ S := fun b o e => ⟨fun z => absurd (Heap.lt_size e) (Nat.not_lt.mpr (Nat.le_of_lt (Nat.lt_of_le_of_lt hSz (above b z)))), Nat.ne_of_lt (Nat.lt_of_lt_of_le (Heap.lt_size e) hSz)⟩
  have kp : ∀ b u, H b = some u → (putT (upd H S (.lst (as.map V.ref))) as ps) b = some u := fun b u e => by
    rw [off b (fun z => by rw [new b z] at e; cases e) (fun z => by rw [z, newS] at e; cases e)]
    exact e
  have eS : putT (upd H S (.lst (as.map V.ref))) as ps S = some (.lst (as.map V.ref)) := by rw [putT_off as ps _ hSn, upd_same]
  refine ⟨putT (upd H S (.lst (as.map V.ref))) as ps, kp, newS, new, hSn, eS, atP, ?_⟩
  refine I.call' (ch := []) rfl ⟨fun b o q _ _ _ => hk b o q, fun b o q _ _ _ => ⟨o.slots, hk b o q⟩, fun b o q n _ => ?_, fun b o q _ => ⟨o, hk b o q⟩, fun b xs q => kp b _ q, fun b o u q => kp b _ q, fun b ps q => ⟨#[], by rw [kp b _ q]; simp⟩⟩ (fun b u q => ?_) I.bare fun b z => by simp at z
  · obtain ⟨z1, z2⟩ := low b o q
    rw [off b z1 z2]
    exact n
  · by_cases hb : b ∈ as
    · obtain ⟨j, pk, e1, e2, e3⟩ := LiI.paired_ix atP hb
      rw [e3] at q
      cases q
      obtain ⟨z, its, r, e⟩ := hP j b pk e1 e2
      exact ⟨z, its, r, ⟨_, e, rfl, _, rfl⟩⟩
    · by_cases hb2 : b = S
      · rw [hb2] at q ⊢
        rw [eS] at q
        cases q
        refine ⟨by rw [List.length_map]; omega, acc.toList, c, by rw [hacc]; exact LiI.vals_refs as, ?_⟩
        rw [Array.toArray_toList]
        exact hS
      · rw [off b hb hb2] at q
        exact (I.hok b u q).stay (fun d v _ y => hk d v y) (fun d y => kp d _ y) fun d xs y => kp d _ y

theorem zsep (n l : Nat) (h : l < n) : ZipSep2 (n + 4) (n + 2) (n + 3) n (n + 1) [n] [n + 1, l] := by
  have n1 (x a : Nat) (h : x ≠ a) : x ∉ [a] := fun m => h (List.mem_singleton.mp m)
  have n2 (x a b : Nat) (h : x ≠ a) (h' : x ≠ b) : x ∉ [a, b] := fun m => (List.mem_cons.mp m).elim h fun m => h' (List.mem_singleton.mp m)
  have e (a b : Nat) (h : a ≠ b) : a ≠ b := h
  exact {
    TIz := e _ _ (by omega), TOz := e _ _ (by omega), TITO := e _ _ (by omega), TIi1 := e _ _ (by omega), mem1 := List.mem_cons_self, zf1 := n1 _ _ (by omega), Tf1 := n1 _ _ (by omega),
    TIi2 := e _ _ (by omega), mem2 := List.mem_cons_self, zf2 := n2 _ _ _ (by omega) (by omega), Tf2 := n2 _ _ _ (by omega) (by omega), sep1_2 := n2 _ _ _ (by omega) (by omega), sep2_1 := n1 _ _ (by omega) }
theorem zlt0 (n : Nat) : n < n + 5 := by omega
theorem zlt1 (n : Nat) : n + 1 < n + 5 := by omega
theorem zlt2 (n l : Nat) (h : l < n) : l < n + 5 := by omega
theorem zle (n : Nat) : n ≤ n + 5 := by omega
theorem zoff (n b : Nat) (h : b < n) : b ≠ n + 4 ∧ b ≠ n + 3 ∧ b ≠ n ∧ b ≠ n + 1 := by omega
def zipPs (z : Str) (xs : List V) : List (List V) := (z.cps.toList.zip xs).map fun q => [V.str ⟨#[q.1]⟩, q.2]
def rZipL (K : PySem.W.Frag) : List V → Hp → VK → Prop := fun vs H Q => ∃ (z : Str) (l : Addr) (xs : List V), vs = [.str z, .ref l] ∧ SqL K H l xs ∧ z.cps.size = xs.length ∧
  ∀ (H' : Hp) (p : Addr) (ts : List Addr), Same H H' → H p = none → (∀ t ∈ ts, H t = none) → p ∉ ts → H' p = some (.lst (ts.map V.ref)) → Paired (fun (t : Addr) (q : List V) => H' t = some (.tup q)) ts (zipPs z xs) → Q (.ref p) H'
def tListZip (K : PySem.W.Frag) (ta : TA) : TE := fun σ H Q => ta σ H fun vs H1 => rZipL K vs H1 Q
theorem zipPs_get {z : Str} {xs : List V} {j : Nat} {p : List V} (h : (zipPs z xs)[j]? = some p) : ∃ c x, z.cps[j]? = some c ∧ xs[j]? = some x ∧ p = [V.str ⟨#[c]⟩, x] := by
  unfold zipPs at h
  rw [List.getElem?_map, Option.map_eq_some_iff] at h
  obtain ⟨⟨c, x⟩, h1, h2⟩ := h
  rw [List.getElem?_zip_eq_some] at h1
  exact ⟨c, x, by simpa using h1.1, h1.2, h2.symm⟩
/-- list(zip(a, b)), a a text, b a list as long -/
theorem pe_listZip {X : Cx} {e e2 : Expr} {ta : TA} {p p2 zpos pos : Pos} (hc : X.calm = true) (ha : PA X [e, e2] ta) (hg : Gl X "list") (hm : X.mg "list" = none) (hv : bootBuiltins "list" = some (.type "list")) (hg2 : Gl X "zip") (hm2 : X.mg "zip" = none)
    (hs : starEach [.Call (.Name "zip" p2) [e, e2] [] zpos] X.env = (false, eval (.Call (.Name "zip" p2) [e, e2] [] zpos) X.env) :: starEach [] X.env := by rfl)
    (hs2 : starEach [e, e2] X.env = (false, eval e X.env) :: starEach [e2] X.env := by rfl) (hpl : (backTo zpos (starEach [e2] X.env)).any (·.1) = false := by rfl) :
    PE X (.Call (.Name "list" p) [.Call (.Name "zip" p2) [e, e2] [] zpos] [] pos) (tListZip X.K ta) := by
  refine ⟨fun pins s σ H Q I hq => ?_⟩
  refine wpAny_Call_Name_kw (ld_blt I hg hm hv ?_)
  refine PyProof.Rows.callWith_type1 ?_ hs rfl
  rw [hs]
  show wpAny _ _ (spliced ((false, eval (.Call (.Name "zip" p2) [e, e2] [] zpos) X.env) :: backTo pos (starEach [] X.env))) _ _ s
  refine Calls.spliced_cons ?_
  refine Call_ (ld_blt I hg2 hm2 PyProof.Rows.boot_zip (PyProof.Rows.callWith_type1 (thn (ha.run zpos pins s σ H _ I hq) fun us s1 ⟨vs, H1, I1, r1, q1⟩ => ?_) hs2 hpl))
  obtain ⟨z, l, xs, ex, hL, hlen, q⟩ := q1
  subst ex
  cases r1 with
  | cons r rr =>
    cases rr with
    | cons r' rr =>
      cases rr
      obtain ⟨t, rfl⟩ := r
      cases r'
      obtain ⟨its, rv, p1, hz1⟩ := I1.list hL
      refine zip_begins2 (begins_text z t) (begins_list l its.toArray) trivial p1.isList fun h' hz hTI hTO h1 h2 hsz hk => ?_
      refine Calls.spliced_nil ?_
      have ll : l < s1.heap.objs.size := p1.lt
      have lits : its.toArray.size = z.cps.size := by rw [List.size_toArray, ← rv.length, hlen]
      have hh : X.A.in1.in1.in1.handled = none := show X.A.in1.in1.in1.handled = none from I.ok.hd hc
      have D1 : Draws X.prog X.w X.A.in1.in1.in1 s1.heap.objs.size [s1.heap.objs.size] z.cps.size _ _ := Draws.text (A := X.A.in1.in1.in1) hh s1.heap.objs.size z t
      have D2 : Draws X.prog X.w X.A.in1.in1.in1 (s1.heap.objs.size + 1) [s1.heap.objs.size + 1, l] z.cps.size (fun i v => its.toArray[i]? = some v) (fun i h => h.IsListIter (s1.heap.objs.size + 1) l i ∧ h.IsList l its.toArray) := by
        have d := Draws.list (prog := X.prog) (w := X.w) (A := X.A.in1.in1.in1) hh (s1.heap.objs.size + 1) l (Nat.ne_of_lt (Nat.lt_succ_of_lt ll)) its.toArray
        rw [lits] at d
        exact d
      have Sp := zsep s1.heap.objs.size l ll
      have f0 := h1
      have st1 : h'.IsStrIter s1.heap.objs.size (strIterType z) z t 0 := ⟨_, h1, rfl, rfl⟩
      have st2 : h'.IsListIter (s1.heap.objs.size + 1) l 0 ∧ h'.IsList l its.toArray := ⟨⟨_, h2, rfl, rfl⟩, p1.isList.at fun o e => hk l o e⟩
      refine KZ.call Sp D1 D2 (by rw [hlen]; exact hz1) hz hTI ⟨_, _, hTO⟩ st1 st2 (fun b hb => ?_) (fun b hb => ?_) fun h'' tk acc c as hk2 hS hl hG hacc => ?_
      · rw [List.mem_singleton.mp hb, hsz]
        exact zlt0 _
      · rw [hsz]
        rcases List.mem_cons.mp hb with hb | hb
        · rw [hb]; exact zlt1 _
        · rw [List.mem_singleton.mp hb]; exact zlt2 _ _ ll
      · have hk3 : ∀ b o, s1.heap.get? b = some o → h''.get? b = some o := fun b o e => by
          have hb : b < s1.heap.objs.size := Heap.lt_size e
          obtain ⟨c1, c2, c3, c4⟩ := zoff _ _ hb
          exact hk2 b o c1 c2 c3 c4 (hk b o e)
        have lps : (zipPs z xs).length = z.cps.size := by
          unfold zipPs
          rw [List.length_map, List.length_zip, Array.length_toList, hlen, Nat.min_self]
        have hPP : ∀ (j : Nat) (a : Addr) (p : List V), as[j]? = some a → (zipPs z xs)[j]? = some p → p.length ≤ sizeLine ∧ ∃ its, Vals p its ∧ h''.get? a = some { cls := .type "tuple", data := .seq its.toArray } := fun j a p ha hp => by
          obtain ⟨x1, x2, ⟨c, u, e1, rfl⟩, e2, e3⟩ := hG.pairs j a ha
          obtain ⟨c', x, f1, f2, rfl⟩ := zipPs_get hp
          rw [e1] at f1
          cases f1
          obtain ⟨u2, g1, g2⟩ := rv.get f2
          have e2' : its[j]? = some x2 := by simpa using e2
          rw [e2'] at g1
          have eu := Option.some.inj g1
          subst eu
          exact ⟨by show 2 ≤ sizeLine; decide, [.str ⟨#[c]⟩ u, x2], .cons ⟨_, rfl⟩ (.cons g2 .nil), e3⟩
        obtain ⟨H', k1, k2, k3, k4, k5, k6, J⟩ := tups_laid (S := h'.objs.size) (ps := zipPs z xs) (tk := tk) I1 (by rw [lps, hlen]; exact hz1) hk3 (by rw [hsz]; exact zle _) hS (hl.trans lps.symm) hG.rise hG.above hPP hacc
        exact ⟨.ref _, H', J, rfl, q H' _ as k1 k2 k3 k4 k5 k6⟩
end K12
set_option Elab.async false
set_option linter.all false
set_option maxRecDepth 100000
set_option maxHeartbeats 2000000
/-! The text by places, the data, the heap's small words. -/
namespace K12
open PySem PySem.Spec PyProof.Rows L2
/-! ### the text -/
abbrev prg : Program := PySem.Challenge.pw_appendlease_k12_whole_each_sign_is_the_l
def top (i : Nat) : Stmt := prg.main.body.getD i (.Pass ⟨0, 0, 0, 0⟩)
abbrev sWhole : Stmt := top 7
abbrev sFrom : Stmt := top 8
abbrev sInit : Stmt := inClass (top 13) 0
abbrev sPut : Stmt := inClass (top 13) 1
abbrev sSigns : Stmt := inClass (top 13) 2
abbrev sMarks : Stmt := inClass (top 13) 3
abbrev sSize : Stmt := inClass (top 13) 4
abbrev sEq : Stmt := inClass (top 13) 7
abbrev sPool : Stmt := top 15
abbrev sTake : Stmt := top 16
abbrev sOne : Stmt := top 17
abbrev sLSigns : Stmt := top 18
abbrev sKey : Stmt := top 19
abbrev sDue : Stmt := top 20
abbrev sLaw : Stmt := top 21
/-! ### small words of the heap -/
theorem Same.new {H : Hp} {p : Addr} {o : HO} (h : H p = none) : Same H (upd H p o) := fun b x e => by
  rw [upd_ne (ne_of_none e h)]
  exact e
/-- all but x is as it was -/
def SB (x : Addr) (H H' : Hp) : Prop := ∀ b o, b ≠ x → H b = some o → H' b = some o
theorem SB.rfl' {x : Addr} {H : Hp} : SB x H H := fun _ _ _ e => e
theorem SB.trans {x : Addr} {H H1 H2 : Hp} (a : SB x H H1) (b : SB x H1 H2) : SB x H H2 := fun c o n e => b c o n (a c o n e)
theorem SB.upd {x : Addr} {H : Hp} {o : HO} : SB x H (L2.upd H x o) := fun b u n e => by rw [upd_ne n]; exact e
theorem sb_same {x : Addr} {H H1 : Hp} (a : Same H H1) : SB x H H1 := fun b o _ e => a b o e
theorem SB.then_same {x : Addr} {H H1 H2 : Hp} (a : SB x H H1) (b : Same H1 H2) : SB x H H2 := a.trans (sb_same b)
theorem SB.then_upd {x : Addr} {H H1 : Hp} {o : HO} (a : SB x H H1) : SB x H (L2.upd H1 x o) := a.trans SB.upd
/-- what stood in H0 stands, where x is none of it -/
theorem SB.base {x : Addr} {H0 H H1 : Hp} (a : SB x H H1) (s : Same H0 H) (n : H0 x = none) : Same H0 H1 := fun b o e => a b o (fun q => by rw [q, n] at e; cases e) (s b o e)
theorem Same.none_of {H H1 : Hp} {x : Addr} (s : Same H H1) (h : H1 x = none) : H x = none := s.free h
theorem line400 {n : Nat} (h : n ≤ 1000) : n ≤ sizeLine := Nat.le_of_lt (small1000 h)
/-! ### entries -/
abbrev En : Type := Nat × V
/-- the filler -/
def fe : En := (126, .non)
def txt (r : List En) : Str := ⟨(r.map Prod.fst).toArray⟩
def mks (r : List En) : List V := r.map Prod.snd
def es (z : Str) (m : V) : List En := z.cps.toList.map fun c => (c, m)
theorem txt_len (r : List En) : (txt r).length = r.length := by show (r.map Prod.fst).toArray.size = _; simp
theorem mks_len (r : List En) : (mks r).length = r.length := List.length_map ..
theorem es_len (z : Str) (m : V) : (es z m).length = z.length := by unfold es; rw [List.length_map, Array.length_toList]; rfl
theorem txt_app (r r2 : List En) : txt r ++ txt r2 = txt (r ++ r2) := by
  show (⟨(r.map Prod.fst).toArray ++ (r2.map Prod.fst).toArray⟩ : Str) = ⟨_⟩
  rw [List.map_append]; simp
theorem mks_app (r r2 : List En) : mks r ++ mks r2 = mks (r ++ r2) := by unfold mks; rw [List.map_append]
theorem str_ext {a b : Str} (h : a.cps.toList = b.cps.toList) : a = b := by
  obtain ⟨x⟩ := a
  obtain ⟨y⟩ := b
  congr
  exact Array.ext' h
theorem txt_es (z : Str) (m : V) : txt (es z m) = z := by
  apply str_ext
  show (es z m).map Prod.fst = _
  unfold es
  rw [List.map_map]
  have : (Prod.fst ∘ fun c : Nat => ((c, m) : En)) = id := rfl
  rw [this, List.map_id]
theorem mks_es (z : Str) (m : V) : mks (es z m) = List.replicate z.length m := by
  unfold mks es
  rw [List.map_map]
  have : (Prod.snd ∘ fun c : Nat => ((c, m) : En)) = fun _ => m := rfl
  rw [this, List.map_const']
  simp
  rfl
theorem txt_fill (n : Nat) : txt (List.replicate n fe) = ⟨(List.replicate n 126).toArray⟩ := by unfold txt; rw [List.map_replicate]; rfl
theorem mks_fill (n : Nat) : mks (List.replicate n fe) = List.replicate n .non := by unfold mks; rw [List.map_replicate]; rfl
theorem cutS_take (r : List En) (s : Nat) : cutS (txt r) none (some (s : Int)) = txt (r.take s) := by
  apply str_ext
  show ((txt r).cps.toList.drop (HT.sIx (txt r).length 0 none)).take (HT.sIx (txt r).length (txt r).length (some (s : Int)) - HT.sIx (txt r).length 0 none) = (txt (r.take s)).cps.toList
  rw [HT.sIx_none, HT.sIx_nat, txt_len]
  show ((r.map Prod.fst).drop 0).take (min s r.length - 0) = (r.take s).map Prod.fst
  rw [List.drop_zero, Nat.sub_zero, List.map_take]
  rw [List.take_eq_take_iff]
  simp
theorem cutS_drop (r : List En) (s : Nat) : cutS (txt r) (some (s : Int)) none = txt (r.drop s) := by
  apply str_ext
  show ((txt r).cps.toList.drop (HT.sIx (txt r).length 0 (some (s : Int)))).take (HT.sIx (txt r).length (txt r).length none - HT.sIx (txt r).length 0 (some (s : Int))) = (txt (r.drop s)).cps.toList
  rw [HT.sIx_none, HT.sIx_nat, txt_len]
  show ((r.map Prod.fst).drop (min s r.length)).take (r.length - min s r.length) = (r.drop s).map Prod.fst
  rw [List.map_drop]
  by_cases h : s ≤ r.length
  · rw [Nat.min_eq_left h, List.take_of_length_le (by simp)]
  · rw [Nat.min_eq_right (by omega), List.drop_of_length_le (by simp), List.drop_of_length_le (by simp; omega), List.take_nil]
theorem cutV_take (xs : List V) (s : Nat) : cutV xs none (some (s : Int)) = xs.take s := by
  unfold cutV
  rw [HT.sIx_none, HT.sIx_nat, List.drop_zero, Nat.sub_zero, List.take_eq_take_iff]
  simp
theorem cutV_drop (xs : List V) (s : Nat) : cutV xs (some (s : Int)) none = xs.drop s := by
  unfold cutV
  rw [HT.sIx_none, HT.sIx_nat]
  by_cases h : s ≤ xs.length
  · rw [Nat.min_eq_left h, List.take_of_length_le (by simp)]
  · rw [Nat.min_eq_right (by omega), List.drop_of_length_le (Nat.le_refl _), List.drop_of_length_le (by omega), List.take_nil]
theorem mks_take (r : List En) (s : Nat) : (mks r).take s = mks (r.take s) := by unfold mks; rw [List.map_take]
theorem mks_drop (r : List En) (s : Nat) : (mks r).drop s = mks (r.drop s) := by unfold mks; rw [List.map_drop]
/-! ### the fields of a Piece -/
def pf (w : Int) (z : Str) (l : Addr) : List (Str × V) := [("own_size", .int w), ("own_signs", .str z), ("own_marks", .ref l)]
theorem k12 : ¬ (("own_size" : Str) = "own_signs") := by decide +kernel
theorem k13 : ¬ (("own_size" : Str) = "own_marks") := by decide +kernel
theorem k23 : ¬ (("own_signs" : Str) = "own_marks") := by decide +kernel
theorem pf_eq (w : Int) (z : Str) (l : Addr) : pf w z l = putF "own_marks" (.ref l) (putF "own_signs" (.str z) (putF "own_size" (.int w) [])) := by
  show pf w z l = putF "own_marks" (.ref l) (if ("own_size" : Str) = "own_signs" then _ else (("own_size" : Str), V.int w) :: [(("own_signs" : Str), V.str z)])
  rw [if_neg k12]
  show pf w z l = (if ("own_size" : Str) = "own_marks" then _ else (("own_size" : Str), V.int w) :: (if ("own_signs" : Str) = "own_marks" then _ else (("own_signs" : Str), V.str z) :: [(("own_marks" : Str), V.ref l)]))
  rw [if_neg k13, if_neg k23]
  rfl
theorem pf_size (w : Int) (z : Str) (l : Addr) : (pf w z l).lookup ("own_size" : Str) = some (.int w) := by
  rw [pf_eq, lookup_putF, if_neg k13, lookup_putF, if_neg k12, lookup_putF, if_pos rfl]
theorem pf_signs (w : Int) (z : Str) (l : Addr) : (pf w z l).lookup ("own_signs" : Str) = some (.str z) := by
  rw [pf_eq, lookup_putF, if_neg k23, lookup_putF, if_pos rfl]
theorem pf_marks (w : Int) (z : Str) (l : Addr) : (pf w z l).lookup ("own_marks" : Str) = some (.ref l) := by
  rw [pf_eq, lookup_putF, if_pos rfl]
theorem pf_no (w : Int) (z : Str) (l : Addr) {m : Str} (h1 : ¬ m = "own_size") (h2 : ¬ m = "own_signs") (h3 : ¬ m = "own_marks") : (pf w z l).lookup m = none := by
  rw [pf_eq, lookup_putF, if_neg h3, lookup_putF, if_neg h2, lookup_putF, if_neg h1]
  rfl
theorem pf_put_signs (w : Int) (z z2 : Str) (l : Addr) : putF "own_signs" (.str z2) (pf w z l) = pf w z2 l := by
  show (if ("own_size" : Str) = "own_signs" then _ else (("own_size" : Str), V.int w) :: (if ("own_signs" : Str) = "own_signs" then (("own_signs" : Str), V.str z2) :: [(("own_marks" : Str), V.ref l)] else _)) = pf w z2 l
  rw [if_neg k12, if_pos rfl]
  rfl
theorem pf_put_marks (w : Int) (z : Str) (l l2 : Addr) : putF "own_marks" (.ref l2) (pf w z l) = pf w z l2 := by
  show (if ("own_size" : Str) = "own_marks" then _ else (("own_size" : Str), V.int w) :: (if ("own_signs" : Str) = "own_marks" then _ else (("own_signs" : Str), V.str z) :: (if ("own_marks" : Str) = "own_marks" then [(("own_marks" : Str), V.ref l2)] else _))) = pf w z l2
  rw [if_neg k13, if_neg k23, if_pos rfl]
  rfl
/-- a Piece at p: its size, what stands in it; its list of marks stands at l -/
structure PieceAt (C : Addr) (H : Hp) (p dx l : Addr) (w : Int) (r : List En) : Prop where
  ins : H p = some (.ins C dx (pf w (txt r) l))
  mkl : H l = some (.lst (mks r))
theorem PieceAt.ne {C : Addr} {H : Hp} {p dx l : Addr} {w : Int} {r : List En} (P : PieceAt C H p dx l w r) : l ≠ p := ne_of P.mkl P.ins (by intro z; cases z)
theorem PieceAt.same {C : Addr} {H H' : Hp} {p dx l : Addr} {w : Int} {r : List En} (P : PieceAt C H p dx l w r) (s : Same H H') : PieceAt C H' p dx l w r := ⟨s _ _ P.ins, s _ _ P.mkl⟩
theorem PieceAt.sb {C : Addr} {H H' : Hp} {x p dx l : Addr} {w : Int} {r : List En} (P : PieceAt C H p dx l w r) (s : SB x H H') (n1 : p ≠ x) (n2 : l ≠ x) : PieceAt C H' p dx l w r := ⟨s _ _ n1 P.ins, s _ _ n2 P.mkl⟩
/-- a piece and another one: the class's facts -/
structure Txt (K : PySem.W.Frag) (mg : Str → Option Value) (C : Addr) : Prop where
  cl : Cls K C
  nZ : NoAttr K C "own_size"
  nS : NoAttr K C "own_signs"
  nM : NoAttr K C "own_marks"
  ha : PySem.W.findIn K (.ref C) "__class__" = some (some (.builtin "object.__class__"))
  hn : PySem.W.specialIn K (.builtin "object.__class__") "__get__" = some (some (.builtin "getset_descriptor.__get__"))
  htk : PySem.W.takesIn K (.builtin "object.__class__") = some true
  hm : PySem.W.mroIn K C (.type "object") = some true
  me : PySem.W.kitOne K (.ref C) (.ref C) = some true
  mgC : mg "Piece" = some (.ref C)
  least : ∃ u, mg "LEAST_SIZE" = some u ∧ RelV (.int 24) u
  most : ∃ u, mg "MOST_SIZE" = some u ∧ RelV (.int 200) u
  filler : ∃ u, mg "FILLER" = some u ∧ RelV (.str "~") u
  isi : mg "isinstance" = none
  int : mg "int" = none
  bool : mg "bool" = none
  len : mg "len" = none
  max : mg "max" = none
  min : mg "min" = none
  list : mg "list" = none
  zip : mg "zip" = none
  enum : mg "enumerate" = none
  range : mg "range" = none
theorem pe_gc {X : Cx} {x : Str} {v : V} {pos : Pos} (hg : Gl X x) (h : ∃ u, X.mg x = some u ∧ RelV v u) (hd : (x == ("__debug__" : Str)) = false := by decide) : PE X (.Name x pos) (tC v) := by
  obtain ⟨u, hm, r⟩ := h
  exact pe_glob hg hm r hd
end K12
set_option Elab.async false
set_option linter.all false
set_option maxRecDepth 100000
set_option maxHeartbeats 4000000
namespace K12
open PySem PySem.Spec PyProof.Rows L2
section
variable {P : Program} {w : World} {K : PySem.W.Frag} {mg : Str → Option Value} {base : Heap} {C : Addr}
abbrev FnF (K : PySem.W.Frag) (x : Str) (qual : Str) (st : Stmt) (dvs : List V) (kws : List (Str × V)) (f : Addr) (fd : FuncData) : Prop := FunD K x qual (defArgs st) (defBody st) (defScope st) dvs kws f fd

/-! ### is_whole -/
def spWhole : Sp := fun vs H Q _ => ∃ i : Int, vs = [.int i] ∧ Q (.bl true) H
theorem scWhole : FnScope ["thing"] ["thing"] (defScope sWhole) := ⟨rfl, rfl, rfl, by decide +kernel, rfl, by decide +kernel, by decide +kernel⟩
theorem ok_whole {f : Addr} {fd : FuncData} (F : FnF K "is_whole" "is_whole" sWhole [] [] f fd) (T : Txt K mg C) : FnOk P w K mg base CX0 1 f fd ["thing"] spWhole := by
  refine F.ok scWhole (fun vs H Q E h => ?_) (fun cdv A outer s H vs Q E hr h => ?_)
  · obtain ⟨i, rfl, _⟩ := h; rfl
  · obtain ⟨i, rfl, q⟩ := h
    refine ⟨_, PSs.nox (pss_one (ps_ret (pe_and (pe_callB call_isi (by rfl) T.isi boot_isinstance (pa_cons (pv 0) (pa_cons (pe_bltn (v := .ty "int") (by rfl) T.int boot_int rfl) pa_nil)))
      (pe_one (pe_not (pe_callB call_isi (by rfl) T.isi boot_isinstance (pa_cons (pv 0) (pa_cons (pe_bltn (v := .ty "bool") (by rfl) T.bool boot_bool rfl) pa_nil)))))))), ?_⟩
    refine ⟨_, rfl, _, _, _, _, true, rfl, .ty "int", .base (.int i), kit_ty (by decide +kernel), _, rfl, iteT ?_⟩
    exact ⟨_, rfl, _, _, _, _, false, rfl, .ty "bool", .base (.int i), kit_ty (by decide +kernel), _, rfl, q⟩

/-! ### is_from -/
def spFrom : Sp := fun vs H Q _ => ∃ i a b : Int, vs = [.int i, .int a, .int b] ∧ a ≤ i ∧ i ≤ b ∧ Q (.bl true) H
theorem scFrom : FnScope ["thing", "least", "most"] ["thing", "least", "most"] (defScope sFrom) := ⟨rfl, rfl, rfl, by decide +kernel, rfl, by decide +kernel, by decide +kernel⟩
theorem ok_from {f fW : Addr} {fd fdW : FuncData} (F : FnF K "is_from" "is_from" sFrom [.non] [] f fd) (FW : FnF K "is_whole" "is_whole" sWhole [] [] fW fdW) (T : Txt K mg C) (gW : mg "is_whole" = some (.ref fW)) :
    FnOk P w K mg base CX0 2 f fd ["thing", "least", "most"] spFrom := by
  have GW : FnOk P w K mg base CX0 1 fW fdW ["thing"] spWhole := ok_whole FW T
  have bW : Binds K fdW ["thing"] [] := FW.bindsN fun _ _ _ _ _ _ us hl => match us, hl with | [_], _ => rfl
  refine F.ok scFrom (fun vs H Q E h => ?_) (fun cdv A outer s H vs Q E hr h => ?_)
  · obtain ⟨i, a, b, rfl, _⟩ := h; rfl
  · obtain ⟨i, a, b, rfl, h1, h2, q⟩ := h
    refine ⟨_, PSs.nox (pss_one (ps_ret (pe_and (pe_call GW hr (by rfl) gW FW.kp bW .nil pass0 (pa_cons (pv 0) pa_nil)) (pe_and (pe_cmpR op_ge (pv 0) (pv 1) (nomark _))
      (pe_one (pe_or (pe_cmpR op_isN (pv 2) pe_non (nomark _)) (pe_one (pe_cmpR op_le (pv 0) (pv 2) (nomark _))))))))), ?_⟩
    refine ⟨_, rfl, i, rfl, _, rfl, iteT ?_⟩
    refine ⟨_, rfl, _, rfl, _, _, rfl, rfl, _, rfl, ?_⟩
    rw [decide_eq_true h1]
    refine iteT ?_
    refine ⟨_, rfl, rfl, false, rfl, iteF ?_⟩
    refine ⟨_, rfl, _, rfl, _, _, rfl, rfl, ?_⟩
    show Q (.bl (decide (i ≤ b))) H
    rw [decide_eq_true h2]
    exact q
theorem binds_from {f : Addr} {fd : FuncData} (F : FnF K "is_from" "is_from" sFrom [.non] [] f fd) : Binds K fd ["thing", "least", "most"] [] := by
  obtain ⟨ds, v, b⟩ := F.binds1 (ps := ["thing", "least", "most"]) 3 1 (by simp) rfl fun T kV doc pm an cdv ct us its hl hl2 => match us, hl, its, hl2 with | [_, _, _], _, [_], _ => ⟨_, rfl, rfl⟩
  cases v
  exact b

/-! ### Piece.__init__ -/
def spInit (C : Addr) : Sp := fun vs H Q _ => ∃ (p dx : Addr) (w : Int), vs = [.ref p, .int w] ∧ 24 ≤ w ∧ w ≤ 200 ∧ H p = some (.ins C dx []) ∧ ∀ (H' : Hp) (l : Addr), SB p H H' → H l = none → PieceAt C H' p dx l w [] → Q .non H'
theorem scInit : FnScope ["self", "size"] ["self", "size"] (defScope sInit) := ⟨rfl, rfl, rfl, by decide +kernel, rfl, by decide +kernel, by decide +kernel⟩
theorem ok_init {f fF : Addr} {fd fdF : FuncData} (F : FnF K "__init__" "Piece.__init__" sInit [.int 60] [] f fd) (T : Txt K mg C) (GF : FnOk P w K mg base CX0 2 fF fdF ["thing", "least", "most"] spFrom) (bF : Binds K fdF ["thing", "least", "most"] []) (gF : mg "is_from" = some (.ref fF)) (kF : PySem.W.keepIn K (.ref fF) = true) :
    FnOk P w K mg base CX0 3 f fd ["self", "size"] (spInit C) := by
  refine F.ok scInit (fun vs H Q E h => ?_) (fun cdv A outer s H vs Q E hr h => ?_)
  · obtain ⟨p, dx, w, rfl, _⟩ := h; rfl
  · obtain ⟨p, dx, w, rfl, h1, h2, hp, q⟩ := h
    refine ⟨_, PSs.nox (pss_cons (ps_if (pt_not (pt_val (pe_call GF hr (by rfl) gF kF bF .nil pass0 (pa_cons (pv 1) (pa_cons (pe_gc (by rfl) T.least) (pa_cons (pe_gc (by rfl) T.most) pa_nil)))))) (pss_one ps_never) pss_nil)
      (pss_cons (ps_fld (pv 0) (pv 1) rfl) (pss_cons (ps_fld (pv 0) pe_str rfl) (pss_one (ps_fld (pv 0) (pe_lst pa_nil) rfl))))), ?_⟩
    refine ⟨_, rfl, w, 24, 200, rfl, h1, h2, true, rfl, iteF ?_⟩
    refine ⟨_, rfl, _, rfl, p, C, dx, [], rfl, hp, T.cl, T.nZ, (by show 0 < 1000; decide), ?_⟩
    refine ⟨_, rfl, p, C, dx, _, rfl, upd_same, T.cl, T.nS, (by show 1 < 1000; decide), ?_⟩
    refine ⟨Nat.zero_le _, fun l hl => ?_⟩
    have hp3 : upd (upd H p (.ins C dx (putF "own_size" (.int w) []))) p (.ins C dx (putF "own_signs" (.str "") (putF "own_size" (.int w) []))) p = some (.ins C dx (putF "own_signs" (.str "") (putF "own_size" (.int w) []))) := upd_same
    have npl : p ≠ l := ne_of_none hp3 hl
    have nl : H l = none := by
      rw [upd_ne npl.symm, upd_ne npl.symm] at hl
      exact hl
    refine ⟨_, rfl, p, C, dx, _, rfl, (upd_ne npl).trans hp3, T.cl, T.nM, (by show (putF "own_signs" (.str "") (putF "own_size" (.int w) [])).length < 1000; exact Nat.lt_of_le_of_lt (length_putF _ _ _) (by show 2 < 1000; decide)), ?_⟩
    refine q _ l ?_ nl ⟨?_, ?_⟩
    · exact ((SB.upd.then_upd).then_same (Same.new hl)).then_upd
    · rw [upd_same, ← pf_eq]; rfl
    · rw [upd_ne npl.symm, upd_same]; rfl
end
end K12
set_option Elab.async false
set_option linter.all false
set_option maxRecDepth 100000
set_option maxHeartbeats 4000000
namespace K12
open PySem PySem.Spec PyProof.Rows L2
section
variable {P : Program} {w : World} {K : PySem.W.Frag} {mg : Str → Option Value} {base : Heap} {C : Addr}
/-! ### signs, marks, size -/
def spSigns (C : Addr) : Sp := fun vs H Q _ => ∃ (p dx l : Addr) (w : Int) (r : List En), vs = [.ref p] ∧ PieceAt C H p dx l w r ∧ Q (.str (txt r)) H
theorem scSigns : FnScope ["self"] ["self"] (defScope sSigns) := ⟨rfl, rfl, rfl, by decide +kernel, rfl, by decide +kernel, by decide +kernel⟩
theorem ok_signs {f : Addr} {fd : FuncData} (F : FnF K "signs" "Piece.signs" sSigns [] [] f fd) (T : Txt K mg C) : FnOk P w K mg base CX0 1 f fd ["self"] (spSigns C) := by
  refine F.ok scSigns (fun vs H Q E h => ?_) (fun cdv A outer s H vs Q E hr h => ?_)
  · obtain ⟨p, dx, l, w, r, rfl, _⟩ := h; rfl
  · obtain ⟨p, dx, l, w, r, rfl, hp, q⟩ := h
    refine ⟨_, PSs.nox (pss_one (ps_ret (pe_fld (pv 0) rfl))), ?_⟩
    exact ⟨_, rfl, p, C, dx, _, _, rfl, hp.ins, T.cl, T.nS, pf_signs _ _ _, q⟩
def spSize (C : Addr) : Sp := fun vs H Q _ => ∃ (p dx l : Addr) (w : Int) (r : List En), vs = [.ref p] ∧ PieceAt C H p dx l w r ∧ Q (.int w) H
theorem scSize : FnScope ["self"] ["self"] (defScope sSize) := ⟨rfl, rfl, rfl, by decide +kernel, rfl, by decide +kernel, by decide +kernel⟩
theorem ok_size {f : Addr} {fd : FuncData} (F : FnF K "size" "Piece.size" sSize [] [] f fd) (T : Txt K mg C) : FnOk P w K mg base CX0 1 f fd ["self"] (spSize C) := by
  refine F.ok scSize (fun vs H Q E h => ?_) (fun cdv A outer s H vs Q E hr h => ?_)
  · obtain ⟨p, dx, l, w, r, rfl, _⟩ := h; rfl
  · obtain ⟨p, dx, l, w, r, rfl, hp, q⟩ := h
    refine ⟨_, PSs.nox (pss_one (ps_ret (pe_fld (pv 0) rfl))), ?_⟩
    exact ⟨_, rfl, p, C, dx, _, _, rfl, hp.ins, T.cl, T.nZ, pf_size _ _ _, q⟩
def spMarks (C : Addr) : Sp := fun vs H Q _ => ∃ (p dx l : Addr) (w : Int) (r : List En), vs = [.ref p] ∧ PieceAt C H p dx l w r ∧ ∀ q, H q = none → Q (.ref q) (upd H q (.lst (mks r)))
theorem scMarks : FnScope ["self"] ["self"] (defScope sMarks) := ⟨rfl, rfl, rfl, by decide +kernel, rfl, by decide +kernel, by decide +kernel⟩
theorem ok_marks {f : Addr} {fd : FuncData} (F : FnF K "marks" "Piece.marks" sMarks [] [] f fd) (T : Txt K mg C) : FnOk P w K mg base CX0 1 f fd ["self"] (spMarks C) := by
  refine F.ok scMarks (fun vs H Q E h => ?_) (fun cdv A outer s H vs Q E hr h => ?_)
  · obtain ⟨p, dx, l, w, r, rfl, _⟩ := h; rfl
  · obtain ⟨p, dx, l, w, r, rfl, hp, q⟩ := h
    refine ⟨_, PSs.nox (pss_one (ps_ret (pe_callTy call_list_of (by rfl) T.list boot_list (pa_cons (pe_fld (pv 0) rfl) pa_nil)))), ?_⟩
    exact ⟨_, rfl, p, C, dx, _, _, rfl, hp.ins, T.cl, T.nM, pf_marks _ _ _, l, _, rfl, .inl (SqL.of hp.mkl), q⟩

/-! ### put -/
def spPut (C : Addr) : Sp := fun vs H Q _ => ∃ (p dx l : Addr) (w : Int) (s : Nat) (z : Str) (m : V) (r : List En), vs = [.ref p, .int (s : Int), .str z, m] ∧ PieceAt C H p dx l w r ∧ w ≤ 200 ∧ (s : Int) + (z.length : Int) ≤ w ∧ (r.length : Int) ≤ w ∧
  ∀ (H' : Hp) (l' : Addr), SB p H H' → H l' = none → PieceAt C H' p dx l' w (put fe r s (es z m)) → Q .non H'
theorem scPut : FnScope ["self", "place", "signs", "mark", "lack", "end", "text", "marks"] ["self", "place", "signs", "mark"] (defScope sPut) := ⟨rfl, rfl, rfl, by decide +kernel, rfl, by decide +kernel, by decide +kernel⟩
theorem lack_eq (s n : Nat) : (if (s : Int) - (n : Int) > 0 then (s : Int) - (n : Int) else 0) = ((s - n : Nat) : Int) := by
  split <;> omega
theorem ok_put {f fF : Addr} {fd fdF : FuncData} (F : FnF K "put" "Piece.put" sPut [] [("mark", .non)] f fd) (T : Txt K mg C) (GF : FnOk P w K mg base CX0 2 fF fdF ["thing", "least", "most"] spFrom) (bF : Binds K fdF ["thing", "least", "most"] []) (gF : mg "is_from" = some (.ref fF)) (kF : PySem.W.keepIn K (.ref fF) = true) :
    FnOk P w K mg base CX0 3 f fd ["self", "place", "signs", "mark"] (spPut C) := by
  refine F.ok scPut (fun vs H Q E h => ?_) (fun cdv A outer st H vs Q E hr h => ?_)
  · obtain ⟨p, dx, l, w, s, z, m, r, rfl, _⟩ := h; rfl
  · obtain ⟨p, dx, l, w, s, z, m, r, rfl, hp, hw, hsz, hrl, q⟩ := h
    have zl : z.length ≤ sizeLine := line400 (by omega)
    have rl : r.length ≤ 200 := by omega
    have tl : (txt r).length ≤ sizeLine := by rw [txt_len]; exact line400 (by omega)
    have small : ∀ {n : Nat}, n ≤ 1000 → n ≤ sizeLine := line400
    refine ⟨_, PSs.nox (pss_cons (ps_if (pt_not (pt_val (pe_call GF hr (by rfl) gF kF bF .nil pass0 (pa_cons (pv 1) (pa_cons pe_int (pa_cons (pe_op op_sub (pe_fld (pv 0) rfl) (pe_callB call_len_str (by rfl) T.len PySem.boot_len (pa_cons (pv 2) pa_nil))) pa_nil)))))) (pss_one ps_never) pss_nil)
      (pss_cons (ps_set (i := 4) scPut.nd rfl (.inl rfl) (pe_callB (call_max2 rfl) (by rfl) T.max boot_max (pa_cons pe_int (pa_cons (pe_op op_sub (pv 1) (pe_callB call_len_str (by rfl) T.len PySem.boot_len (pa_cons (pe_fld (pv 0) rfl) pa_nil))) pa_nil))))
      (pss_cons (ps_set (i := 5) scPut.nd rfl (.inl rfl) (pe_op op_add (pv 1) (pe_callB call_len_str (by rfl) T.len PySem.boot_len (pa_cons (pv 2) pa_nil))))
      (pss_cons (ps_par (i := 6) (j := 7) (by rfl) scPut.nd rfl rfl (by decide) rfl rfl (pa_cons (pe_op op_add_str (pe_fld (pv 0) rfl) (pe_op op_mulS (pe_gc (by rfl) T.filler) (pv 4))) (pa_cons (pe_op op_cat (pe_fld (pv 0) rfl) (pe_op op_rep (pe_lst (pa_cons pe_non pa_nil)) (pv 4))) pa_nil)) (by rfl))
      (pss_cons (ps_fld (pv 0) (pe_op op_add_str (pe_op op_add_str (pe_slice sl_str (pv 6) po_none (po_some (pv 1))) (pv 2)) (pe_slice sl_str (pv 6) (po_some (pv 5)) po_none)) rfl)
      (pss_one (ps_fld (pv 0) (pe_op op_cat (pe_op op_cat (pe_slice sl_list (pv 7) po_none (po_some (pv 1))) (pe_op op_rep (pe_lst (pa_cons (pv 3) pa_nil)) (pe_callB call_len_str (by rfl) T.len PySem.boot_len (pa_cons (pv 2) pa_nil)))) (pe_slice sl_list (pv 7) (po_some (pv 5)) po_none)) rfl))))))), ?_⟩
    -- if not is_from(place, 0, self.own_size - len(signs))
    refine ⟨_, rfl, _, rfl, p, C, dx, _, _, rfl, hp.ins, T.cl, T.nZ, pf_size _ _ _, _, rfl, z, rfl, zl, _, _, rfl, rfl, (s : Int), 0, _, rfl, by omega, by omega, true, rfl, iteF ?_⟩
    -- lack = max(0, place - len(self.own_signs))
    refine ⟨_, rfl, _, rfl, p, C, dx, _, _, rfl, hp.ins, T.cl, T.nS, pf_signs _ _ _, txt r, rfl, tl, _, _, rfl, rfl, 0, _, rfl, ?_⟩
    rw [txt_len, lack_eq]
    -- end = place + len(signs)
    refine ⟨_, rfl, _, rfl, z, rfl, zl, _, _, rfl, rfl, ?_⟩
    -- text, marks = ..
    have hlk : s - r.length ≤ 200 := by omega
    have e1 : (⟨(List.replicate (((s - r.length : Nat) : Int)).toNat 126).toArray⟩ : Str) = txt (List.replicate (s - r.length) fe) := by rw [txt_fill, Int.toNat_natCast]
    refine ⟨_, rfl, p, C, dx, _, _, rfl, hp.ins, T.cl, T.nS, pf_signs _ _ _, _, rfl, 126, _, rfl, rfl, by omega, by omega, ?_⟩
    rw [e1]
    refine ⟨_, _, rfl, rfl, by rw [txt_len, txt_len, List.length_replicate]; exact small (by omega), ?_⟩
    rw [txt_app]
    refine ⟨_, rfl, p, C, dx, _, _, rfl, hp.ins, T.cl, T.nM, pf_marks _ _ _, (by show 1 ≤ sizeLine; decide), fun q1 n1 => ?_⟩
    have S1 : Same H (upd H q1 (.lst [.non])) := Same.new n1
    refine ⟨_, rfl, q1, _, _, rfl, rfl, upd_same, by omega, by omega, (by rw [Int.toNat_natCast]; show 1 * (s - r.length) ≤ sizeLine; exact small (by omega)), fun q2 n2 => ?_⟩
    generalize eH1 : upd H q1 (.lst [.non]) = H1 at S1 n2
    have hflat : (List.replicate (((s - r.length : Nat) : Int)).toNat [V.non]).flatten = mks (List.replicate (s - r.length) fe) := by
      rw [mks_fill, Int.toNat_natCast, List.flatten_replicate_singleton]
    rw [hflat]
    have S2 := Same.new (o := .lst (mks (List.replicate (s - r.length) fe))) n2
    have a2 : upd H1 q2 (.lst (mks (List.replicate (s - r.length) fe))) q2 = some (.lst (mks (List.replicate (s - r.length) fe))) := upd_same
    generalize eH2 : upd H1 q2 (.lst (mks (List.replicate (s - r.length) fe))) = H2 at S2 a2
    refine ⟨l, q2, _, _, rfl, rfl, S2 _ _ (S1 _ _ hp.mkl), a2, by rw [mks_len, mks_len, List.length_replicate]; exact small (by omega), fun q3 n3 => ?_⟩
    rw [mks_app]
    have S3 := Same.new (o := .lst (mks (r ++ List.replicate (s - r.length) fe))) n3
    have a3 : upd H2 q3 (.lst (mks (r ++ List.replicate (s - r.length) fe))) q3 = some (.lst (mks (r ++ List.replicate (s - r.length) fe))) := upd_same
    generalize eH3 : upd H2 q3 (.lst (mks (r ++ List.replicate (s - r.length) fe))) = H3 at S3 a3
    have T3 : Same H H3 := S1.trans (S2.trans S3)
    refine ⟨_, _, rfl, ?_⟩
    generalize er : r ++ List.replicate (s - r.length) fe = r' at a3
    have rl' : r'.length ≤ 200 := by rw [← er, List.length_append, List.length_replicate]; omega
    have tl' : (txt r').length ≤ sizeLine := by rw [txt_len]; exact small (by omega)
    -- self.own_signs = text[:place] + signs + text[end:]
    have es1 : (s : Int) + (z.length : Int) = ((s + z.length : Nat) : Int) := by omega
    refine ⟨_, rfl, _, rfl, s, rfl, txt r', rfl, tl', _, rfl, _, _, rfl, rfl, ?_, ?_⟩
    · rw [cutS_take, txt_len, List.length_take]; exact small (by omega)
    rw [cutS_take]
    refine ⟨_, rfl, _, rfl, _, rfl, txt r', rfl, tl', ?_⟩
    rw [es1, cutS_drop]
    refine ⟨_, _, rfl, rfl, ?_, ?_⟩
    · rw [txt_len, List.length_drop]
      show ((txt (r'.take s)).cps ++ z.cps).size + _ ≤ sizeLine
      rw [Array.size_append]
      show (txt (r'.take s)).length + z.length + _ ≤ sizeLine
      rw [txt_len, List.length_take]
      exact small (by omega)
    refine ⟨_, rfl, p, C, dx, _, rfl, T3 _ _ hp.ins, T.cl, T.nS, (by show 3 < 1000; decide), ?_⟩
    rw [pf_put_signs]
    have nq3 : q3 ≠ p := ne_of a3 (T3 _ _ hp.ins) (by intro z; cases z)
    have hp4 : upd H3 p (.ins C dx (pf w (txt (r'.take s) ++ z ++ txt (r'.drop (s + z.length))) l)) p = some (.ins C dx (pf w (txt (r'.take s) ++ z ++ txt (r'.drop (s + z.length))) l)) := upd_same
    have a4 : upd H3 p (.ins C dx (pf w (txt (r'.take s) ++ z ++ txt (r'.drop (s + z.length))) l)) q3 = some (.lst (mks r')) := (upd_ne nq3).trans a3
    have B4 : SB p H (upd H3 p (.ins C dx (pf w (txt (r'.take s) ++ z ++ txt (r'.drop (s + z.length))) l))) := (sb_same T3).then_upd
    have hZ : txt (r'.take s) ++ z ++ txt (r'.drop (s + z.length)) = txt (put fe r s (es z m)) := by
      conv => lhs; rw [← txt_es z m]
      rw [txt_app, txt_app]
      congr 1
      unfold put
      rw [er, es_len, txt_es]
    rw [hZ] at hp4 a4 B4 ⊢
    have nH : ∀ x, upd H3 p (.ins C dx (pf w (txt (put fe r s (es z m))) l)) x = none → H x = none := fun x hx => by
      have np : x ≠ p := fun e => by rw [e, upd_same] at hx; cases hx
      rw [upd_ne np] at hx
      exact T3.free hx
    generalize eH4 : upd H3 p (.ins C dx (pf w (txt (put fe r s (es z m))) l)) = H4 at hp4 a4 B4 nH
    -- self.own_marks = marks[:place] + [mark] * len(signs) + marks[end:]
    refine ⟨_, rfl, _, rfl, s, rfl, q3, _, rfl, SqL.of a4, fun q4 n4 => ?_⟩
    rw [cutV_take, mks_take]
    have S5 := Same.new (o := .lst (mks (r'.take s))) n4
    have a5 : upd H4 q4 (.lst (mks (r'.take s))) q4 = some (.lst (mks (r'.take s))) := upd_same
    generalize eH5 : upd H4 q4 (.lst (mks (r'.take s))) = H5 at S5 a5
    refine ⟨_, rfl, (by show 1 ≤ sizeLine; decide), fun q5 n5 => ?_⟩
    have S6 := Same.new (o := .lst [m]) n5
    have a6 : upd H5 q5 (.lst [m]) q5 = some (.lst [m]) := upd_same
    generalize eH6 : upd H5 q5 (.lst [m]) = H6 at S6 a6
    refine ⟨_, rfl, z, rfl, zl, q5, _, _, rfl, rfl, a6, by omega, by omega, (by rw [Int.toNat_natCast]; show 1 * z.length ≤ sizeLine; exact small (by omega)), fun q6 n6 => ?_⟩
    have hflat2 : (List.replicate ((z.length : Int)).toNat [m]).flatten = mks (es z m) := by
      rw [mks_es, Int.toNat_natCast, List.flatten_replicate_singleton]
    rw [hflat2]
    have S7 := Same.new (o := .lst (mks (es z m))) n6
    have a7 : upd H6 q6 (.lst (mks (es z m))) q6 = some (.lst (mks (es z m))) := upd_same
    generalize eH7 : upd H6 q6 (.lst (mks (es z m))) = H7 at S7 a7
    refine ⟨q4, q6, _, _, rfl, rfl, S7 _ _ (S6 _ _ a5), a7, ?_, fun q7 n7 => ?_⟩
    · rw [mks_len, mks_len, es_len, List.length_take]; exact small (by omega)
    rw [mks_app]
    have S8 := Same.new (o := .lst (mks (r'.take s ++ es z m))) n7
    have a8 : upd H7 q7 (.lst (mks (r'.take s ++ es z m))) q7 = some (.lst (mks (r'.take s ++ es z m))) := upd_same
    generalize eH8 : upd H7 q7 (.lst (mks (r'.take s ++ es z m))) = H8 at S8 a8
    have T8 : Same H4 H8 := S5.trans (S6.trans (S7.trans S8))
    refine ⟨_, rfl, _, rfl, _, rfl, q3, _, rfl, SqL.of (T8 _ _ a4), fun q8 n8 => ?_⟩
    rw [es1, cutV_drop, mks_drop]
    have S9 := Same.new (o := .lst (mks (r'.drop (s + z.length)))) n8
    have a9 : upd H8 q8 (.lst (mks (r'.drop (s + z.length)))) q8 = some (.lst (mks (r'.drop (s + z.length)))) := upd_same
    generalize eH9 : upd H8 q8 (.lst (mks (r'.drop (s + z.length)))) = H9 at S9 a9
    refine ⟨q7, q8, _, _, rfl, rfl, S9 _ _ a8, a9, ?_, fun q9 n9 => ?_⟩
    · rw [mks_len, mks_len, List.length_append, es_len, List.length_take, List.length_drop]; exact small (by omega)
    rw [mks_app]
    have hR : r'.take s ++ es z m ++ r'.drop (s + z.length) = put fe r s (es z m) := by
      unfold put
      rw [er, es_len]
    rw [hR]
    have S10 := Same.new (o := .lst (mks (put fe r s (es z m)))) n9
    have a10 : upd H9 q9 (.lst (mks (put fe r s (es z m)))) q9 = some (.lst (mks (put fe r s (es z m)))) := upd_same
    have T9 : Same H4 H9 := T8.trans S9
    have nq9 : H q9 = none := nH _ (T9.free n9)
    generalize eH10 : upd H9 q9 (.lst (mks (put fe r s (es z m)))) = H10 at S10 a10
    have T10 : Same H4 H10 := T9.trans S10
    have nq9p : q9 ≠ p := ne_of a10 (T10 _ _ hp4) (by intro z; cases z)
    refine ⟨_, rfl, p, C, dx, _, rfl, T10 _ _ hp4, T.cl, T.nM, (by show 3 < 1000; decide), ?_⟩
    rw [pf_put_marks]
    exact q _ q9 ((B4.then_same T10).then_upd) nq9 ⟨upd_same, (upd_ne nq9p).trans a10⟩
end
end K12
set_option Elab.async false
set_option linter.all false
set_option maxRecDepth 100000
set_option maxHeartbeats 4000000
namespace K12
open PySem PySem.Spec PyProof.Rows L2
/-! ### what a mark is, as data -/
def Mk1 (H : Hp) (m : V) : Prop := m = .non ∨ ∃ (a : Addr) (w : Str) (n : Int), m = .ref a ∧ H a = some (.tup [.str w, .int n]) ∧ PyData.strOk w = true
def dat (H : Hp) : V → PyData
  | .ref a => match H a with
    | some (.tup [.str w, .int n]) => .tuple [.str w, .int n]
    | _ => .none
  | _ => .none
theorem Mk1.same {H H' : Hp} {m : V} (h : Mk1 H m) (s : Same H H') : Mk1 H' m := by
  rcases h with h | ⟨a, w, n, e, ha, o⟩
  · exact .inl h
  · exact .inr ⟨a, w, n, e, s _ _ ha, o⟩
theorem dat_tup {H : Hp} {a : Addr} {w : Str} {n : Int} (h : H a = some (.tup [.str w, .int n])) : dat H (.ref a) = .tuple [.str w, .int n] := by
  unfold dat
  simp only [h]
theorem dat_ok {K : PySem.W.Frag} {H : Hp} {m : V} (h : Mk1 H m) : Dp K H m (dat H m) ∧ (dat H m).canLay0 = true ∧ (dat H m).depth ≤ 1 := by
  rcases h with rfl | ⟨a, w, n, rfl, ha, o⟩
  · exact ⟨.non, rfl, Nat.zero_le _⟩
  · rw [dat_tup ha]
    refine ⟨.tup (SqT.of ha) (.cons (.str w) (.cons (.int n) .nil)), ?_, ?_⟩
    · simp [PyData.canLay0, PyData.canLayAll0, o]
    · simp [PyData.depth, PyData.depthAll]
theorem marks_ok {K : PySem.W.Frag} {H : Hp} : ∀ {xs : List V}, (∀ m ∈ xs, Mk1 H m) → DpAll K H xs (xs.map (dat H)) ∧ PyData.canLayAll0 (xs.map (dat H)) = true ∧ PyData.depthAll (xs.map (dat H)) ≤ 1
  | [], _ => ⟨.nil, rfl, Nat.zero_le _⟩
  | m :: xs, h => by
    obtain ⟨a1, a2, a3⟩ := dat_ok (K := K) (h m List.mem_cons_self)
    obtain ⟨b1, b2, b3⟩ := marks_ok (K := K) fun x hx => h x (List.mem_cons_of_mem _ hx)
    refine ⟨.cons a1 b1, ?_, ?_⟩
    · show PyData.canLayAll0 (dat H m :: xs.map (dat H)) = true
      simp [PyData.canLayAll0, a2, b2]
    · show PyData.depthAll (dat H m :: xs.map (dat H)) ≤ 1
      simp only [PyData.depthAll]
      omega
theorem markList_ok {K : PySem.W.Frag} {H : Hp} {l : Addr} {xs : List V} (hl : H l = some (.lst xs)) (h : ∀ m ∈ xs, Mk1 H m) : Dp K H (.ref l) (.list (xs.map (dat H))) ∧ SeqAt.shaped (.list (xs.map (dat H))) = true := by
  obtain ⟨a1, a2, a3⟩ := marks_ok (K := K) h
  refine ⟨.lst (SqL.of hl) a1, ?_⟩
  unfold SeqAt.shaped
  have e1 : (PyData.list (xs.map (dat H))).canLay0 = true := a2
  have e2 : (PyData.list (xs.map (dat H))).depth ≤ 64 := by
    show PyData.depthAll (xs.map (dat H)) + 1 ≤ 64
    omega
  rw [e1, decide_eq_true e2]
  rfl
/-- a list of tuples (sign, mark) -/
def rowD (H : Hp) (r : List En) : List PyData := r.map fun e => .tuple [.str ⟨#[e.1]⟩, dat H e.2]
abbrev IsEn (H : Hp) (t : Addr) (e : En) : Prop := H t = some (.tup [.str ⟨#[e.1]⟩, e.2])
def RowAt (H : Hp) (L : Addr) (r : List En) : Prop := ∃ ts : List Addr, H L = some (.lst (ts.map V.ref)) ∧ Paired (IsEn H) ts r
def Ok1 (H : Hp) (e : En) : Prop := e.1 < 1114112 ∧ Mk1 H e.2
theorem Ok1.same {H H' : Hp} {e : En} (h : Ok1 H e) (s : Same H H') : Ok1 H' e := ⟨h.1, h.2.same s⟩
theorem row_all {K : PySem.W.Frag} {H : Hp} : ∀ {ts : List Addr} {r : List En}, Paired (IsEn H) ts r → (∀ e ∈ r, Ok1 H e) → DpAll K H (ts.map V.ref) (rowD H r) ∧ PyData.canLayAll0 (rowD H r) = true ∧ PyData.depthAll (rowD H r) ≤ 2
  | _, _, .nil, _ => ⟨.nil, rfl, Nat.zero_le _⟩
  | t :: ts, e :: r, .cons h1 h2, h => by
    obtain ⟨o1, o2⟩ := h e List.mem_cons_self
    obtain ⟨a1, a2, a3⟩ := dat_ok (K := K) o2
    obtain ⟨b1, b2, b3⟩ := row_all (K := K) h2 fun x hx => h x (List.mem_cons_of_mem _ hx)
    refine ⟨.cons (.tup (SqT.of h1) (.cons (.str _) (.cons a1 .nil))) b1, ?_, ?_⟩
    · show PyData.canLayAll0 (PyData.tuple [.str ⟨#[e.1]⟩, dat H e.2] :: rowD H r) = true
      have : PyData.strOk ⟨#[e.1]⟩ = true := by simp [PyData.strOk, o1]
      simp [PyData.canLayAll0, PyData.canLay0, a2, b2, this]
    · show PyData.depthAll (PyData.tuple [.str ⟨#[e.1]⟩, dat H e.2] :: rowD H r) ≤ 2
      simp only [PyData.depthAll, PyData.depth]
      omega
theorem row_ok {K : PySem.W.Frag} {H : Hp} {L : Addr} {r : List En} (h : RowAt H L r) (o : ∀ e ∈ r, Ok1 H e) : Dp K H (.ref L) (.list (rowD H r)) ∧ SeqAt.shaped (.list (rowD H r)) = true := by
  obtain ⟨ts, hL, hp⟩ := h
  obtain ⟨a1, a2, a3⟩ := row_all (K := K) hp o
  refine ⟨.lst (SqL.of hL) a1, ?_⟩
  unfold SeqAt.shaped
  have e1 : (PyData.list (rowD H r)).canLay0 = true := a2
  have e2 : (PyData.list (rowD H r)).depth ≤ 64 := by
    show PyData.depthAll (rowD H r) + 1 ≤ 64
    omega
  rw [e1, decide_eq_true e2]
  rfl
theorem eqv_same {d : PyData} (h : SeqAt.shaped d = true) : PyData.eqv d d = true := SeqAt.eqv_refl d (SeqAt.canLay_of_shaped h)

section
variable {P : Program} {w : World} {K : PySem.W.Frag} {mg : Str → Option Value} {base : Heap} {C : Addr}
/-! ### == of two Pieces -/
def REq (C : Addr) (a b : Addr) (H : Hp) : Prop := ∃ (dxa la dxb lb : Addr) (w : Int) (r : List En), PieceAt C H a dxa la w r ∧ PieceAt C H b dxb lb w r ∧ ∀ m ∈ mks r, Mk1 H m
theorem scEq : FnScope ["self", "other"] ["self", "other"] (defScope sEq) := ⟨rfl, rfl, rfl, by decide +kernel, rfl, by decide +kernel, by decide +kernel⟩
theorem ok_eq {f fZ fS fM : Addr} {fd fdZ fdS fdM : FuncData} (F : FnF K "__eq__" "Piece.__eq__" sEq [] [] f fd) (T : Txt K mg C)
    (FZ : FnF K "size" "Piece.size" sSize [] [] fZ fdZ) (mZ : Meth K C "size" fZ) (FS : FnF K "signs" "Piece.signs" sSigns [] [] fS fdS) (mS : Meth K C "signs" fS) (FM : FnF K "marks" "Piece.marks" sMarks [] [] fM fdM) (mM : Meth K C "marks" fM) :
    FnOk P w K mg base CX0 2 f fd ["self", "other"] (spEq (REq C)) := by
  have GZ : FnOk P w K mg base CX0 1 fZ fdZ ["self"] (spSize C) := ok_size FZ T
  have GS : FnOk P w K mg base CX0 1 fS fdS ["self"] (spSigns C) := ok_signs FS T
  have GM : FnOk P w K mg base CX0 1 fM fdM ["self"] (spMarks C) := ok_marks FM T
  have bZ : Binds K fdZ ["self"] [] := FZ.bindsN fun _ _ _ _ _ _ us hl => match us, hl with | [_], _ => rfl
  have bS : Binds K fdS ["self"] [] := FS.bindsN fun _ _ _ _ _ _ us hl => match us, hl with | [_], _ => rfl
  have bM : Binds K fdM ["self"] [] := FM.bindsN fun _ _ _ _ _ _ us hl => match us, hl with | [_], _ => rfl
  refine F.ok scEq (fun vs H Q E h => ?_) (fun cdv A outer st H vs Q E hr h => ?_)
  · obtain ⟨a, b, rfl, _⟩ := h; rfl
  · obtain ⟨a, b, rfl, ⟨dxa, la, dxb, lb, w, r, ha, hb, hm⟩, q⟩ := h
    refine ⟨_, PSs.nox (pss_cons (ps_if (PW.pt (pw_or (pt_not (pt_val (pe_callB call_isi (by rfl) T.isi boot_isinstance (pa_cons (pv 1) (pa_cons (pe_glob (v := .ref C) (by rfl) T.mgC rfl) pa_nil)))))
        (pw_or1 (pt_cmpR op_ne (pe_fld (pv 0) rfl) (pe_meth0 (pv 1) T.cl mZ GZ hr bZ .nil pass0) (nomark _))))) (pss_one (ps_ret pe_bl)) pss_nil)
      (pss_one (ps_ret (pe_and (pe_cmpR op_eq (pe_fld (pv 0) rfl) (pe_meth0 (pv 1) T.cl mS GS hr bS .nil pass0) (nomark _)) (pe_one (pe_cmpR (op_eqD hr.units) (pe_fld (pv 0) rfl) (pe_meth0 (pv 1) T.cl mM GM hr bM .nil pass0) (nomark _))))))), ?_⟩
    refine ⟨_, rfl, _, _, _, _, true, rfl, .own C, .base (.ins hb.ins T.cl T.ha T.hn T.htk T.hm), T.me, true, rfl, iteF ?_⟩
    refine ⟨_, rfl, a, C, dxa, _, _, rfl, ha.ins, T.cl, T.nZ, pf_size _ _ _, _, rfl, b, dxb, _, rfl, hb.ins, pf_no _ _ _ (by decide +kernel) (by decide +kernel) (by decide +kernel), b, dxb, lb, w, r, rfl, hb, rfl, _, rfl, ?_⟩
    rw [decide_eq_true rfl]
    refine iteF ?_
    refine ⟨_, rfl, a, C, dxa, _, _, rfl, ha.ins, T.cl, T.nS, pf_signs _ _ _, _, rfl, b, dxb, _, rfl, hb.ins, pf_no _ _ _ (by decide +kernel) (by decide +kernel) (by decide +kernel), b, dxb, lb, w, r, rfl, hb, rfl, _, rfl, ?_⟩
    rw [decide_eq_true rfl]
    refine iteT ?_
    refine ⟨_, rfl, a, C, dxa, _, _, rfl, ha.ins, T.cl, T.nM, pf_marks _ _ _, _, rfl, b, dxb, _, rfl, hb.ins, pf_no _ _ _ (by decide +kernel) (by decide +kernel) (by decide +kernel), b, dxb, lb, w, r, rfl, hb, fun p np => ?_⟩
    have S1 := Same.new (o := .lst (mks r)) np
    have hm' : ∀ m ∈ mks r, Mk1 (upd H p (.lst (mks r))) m := fun m h => (hm m h).same S1
    obtain ⟨d1, s1⟩ := markList_ok (K := K) (S1 _ _ ha.mkl) hm'
    obtain ⟨d2, s2⟩ := markList_ok (K := K) (l := p) (xs := mks r) upd_same hm'
    refine ⟨_, _, d1, d2, s1, s2, ?_⟩
    rw [eqv_same s1]
    exact q _ S1
end
end K12
set_option Elab.async false
set_option linter.all false
set_option maxRecDepth 100000
set_option maxHeartbeats 4000000
namespace K12
open PySem PySem.Spec PyProof.Rows L2
section
variable {P : Program} {w : World} {K : PySem.W.Frag} {mg : Str → Option Value} {base : Heap} {C : Addr}
/-! ### _law_take -/
def PoolAt (H : Hp) (a : Addr) : Prop := ∃ x y : Int, H a = some (.lst [.int x, .int y])
def spTake : Sp := fun vs H Q _ => ∃ (a : Addr) (m : Int), vs = [.ref a, .int m] ∧ PoolAt H a ∧ 1 ≤ m ∧ m ≤ 1000 ∧ ∀ (H' : Hp) (v : Int), SB a H H' → PoolAt H' a → 0 ≤ v → v < m → Q (.int v) H'
theorem scTake : FnScope ["_law_pool_here", "_law_most", "_law_found"] ["_law_pool_here", "_law_most"] (defScope sTake) := ⟨rfl, rfl, rfl, by decide +kernel, rfl, by decide +kernel, by decide +kernel⟩
theorem ok_take {f : Addr} {fd : FuncData} (F : FnF K "_law_take" "_law_take" sTake [] [] f fd) : FnOk P w K mg base CX0 1 f fd ["_law_pool_here", "_law_most"] spTake := by
  refine F.ok scTake (fun vs H Q E h => ?_) (fun cdv A outer st H vs Q E hr h => ?_)
  · obtain ⟨a, m, rfl, _⟩ := h; rfl
  · obtain ⟨a, m, rfl, ⟨x, y, ha⟩, h1, h2, q⟩ := h
    have hm0 : 0 < m := by omega
    refine ⟨_, PSs.nox (pss_cons (ps_if (pt_cmpR op_gt (pe_ix ix_list (pv 0) pe_int (fun _ _ => rfl)) pe_int (nomark _))
        (pss_cons (ps_set (i := 2) scTake.nd rfl (.inl rfl) (pe_op op_mod (pe_ix ix_list (pv 0) pe_int (fun _ _ => rfl)) (pv 1)))
        (pss_cons (ps_asg (pe_op op_fdiv (pe_ix ix_list (pv 0) pe_int (fun _ _ => rfl)) (pv 1)) (pg_sub (pv 0) pe_int set_list))
        (pss_one (ps_ret (pv 2))))) pss_nil)
      (pss_cons (ps_asg (pe_op op_mod (pe_op op_add (pe_op op_mul (pe_ix ix_list (pv 0) pe_int (fun _ _ => rfl)) pe_int) pe_int) pe_int) (pg_sub (pv 0) pe_int set_list))
      (pss_one (ps_ret (pe_op op_mod (pe_op op_fdiv (pe_op op_mod (pe_op op_mul (pe_ix ix_list (pv 0) pe_int (fun _ _ => rfl)) (pe_ix ix_list (pv 0) pe_int (fun _ _ => rfl))) pe_int) pe_int) (pv 1)))))), ?_⟩
    refine ⟨_, rfl, a, _, 0, .int x, rfl, rfl, SqL.of ha, atI_nat (j := 0) rfl, _, _, rfl, rfl, _, rfl, ite2 (fun _ => ?_) (fun _ => ?_)⟩
    · refine ⟨_, rfl, a, _, 0, .int x, rfl, rfl, SqL.of ha, atI_nat (j := 0) rfl, _, rfl, _, _, rfl, rfl, hm0, ?_⟩
      refine ⟨_, rfl, a, _, 0, .int x, rfl, rfl, SqL.of ha, atI_nat (j := 0) rfl, _, rfl, _, _, rfl, rfl, ⟨hm0, by omega⟩, ?_⟩
      refine ⟨_, rfl, a, _, 0, 0, rfl, rfl, ha, rfl, ?_⟩
      refine ⟨_, rfl, ?_⟩
      exact q _ _ SB.upd ⟨x / m, y, upd_same⟩ (Int.emod_nonneg _ (by omega)) (Int.emod_lt_of_pos _ hm0)
    · refine ⟨_, rfl, a, _, 1, .int y, rfl, rfl, SqL.of ha, atI_nat (j := 1) rfl, y, 69621, rfl, rfl, .inr ⟨by decide, by decide⟩, _, _, rfl, rfl, _, _, rfl, rfl, (by show (0 : Int) < 2147483647; decide), ?_⟩
      refine ⟨_, rfl, a, _, 1, 1, rfl, rfl, ha, rfl, ?_⟩
      refine ⟨_, rfl, a, _, 1, _, rfl, rfl, SqL.of upd_same, atI_nat (j := 1) rfl, _, rfl, a, _, 1, _, rfl, rfl, SqL.of upd_same, atI_nat (j := 1) rfl, _, _, rfl, rfl, .inl ⟨by omega, by omega⟩, _, _, rfl, rfl, (by show (0 : Int) < 2147483629; decide), _, _, rfl, rfl, ⟨by decide, by decide⟩, _, rfl, _, _, rfl, rfl, hm0, ?_⟩
      exact q _ _ SB.upd ⟨x, _, upd_same⟩ (Int.emod_nonneg _ (by omega)) (Int.emod_lt_of_pos _ hm0)

/-! ### _law_one -/
def spOne : Sp := fun vs H Q _ => ∃ (a l : Addr) (xs : List V), vs = [.ref a, .ref l] ∧ PoolAt H a ∧ H l = some (.lst xs) ∧ l ≠ a ∧ 1 ≤ xs.length ∧ xs.length ≤ 1000 ∧ ∀ (H' : Hp) (v : V), SB a H H' → PoolAt H' a → v ∈ xs → Q v H'
theorem scOne : FnScope ["_law_pool_here", "_law_some"] ["_law_pool_here", "_law_some"] (defScope sOne) := ⟨rfl, rfl, rfl, by decide +kernel, rfl, by decide +kernel, by decide +kernel⟩
theorem ok_one {f fT : Addr} {fd fdT : FuncData} (F : FnF K "_law_one" "_law_one" sOne [] [] f fd) (FT : FnF K "_law_take" "_law_take" sTake [] [] fT fdT) (gT : mg "_law_take" = some (.ref fT)) (T : Txt K mg C) : FnOk P w K mg base CX0 2 f fd ["_law_pool_here", "_law_some"] spOne := by
  have GT : FnOk P w K mg base CX0 1 fT fdT ["_law_pool_here", "_law_most"] spTake := ok_take FT
  have bT : Binds K fdT ["_law_pool_here", "_law_most"] [] := FT.bindsN fun _ _ _ _ _ _ us hl => match us, hl with | [_, _], _ => rfl
  refine F.ok scOne (fun vs H Q E h => ?_) (fun cdv A outer st H vs Q E hr h => ?_)
  · obtain ⟨a, l, xs, rfl, _⟩ := h; rfl
  · obtain ⟨a, l, xs, rfl, ha, hl, nla, h1, h2, q⟩ := h
    refine ⟨_, PSs.nox (pss_one (ps_ret (pe_ix ix_list (pv 1) (pe_call GT hr (by rfl) gT FT.kp bT .nil pass0 (pa_cons (pv 0) (pa_cons (pe_callB call_len_seq (by rfl) T.len PySem.boot_len (pa_cons (pv 1) pa_nil)) pa_nil))) (fun _ _ => rfl)))), ?_⟩
    refine ⟨_, rfl, _, rfl, _, rfl, l, xs, rfl, .inl (SqL.of hl), a, _, rfl, ha, by omega, by omega, fun H' v sb hp v0 v1 => ?_⟩
    have hv : v.toNat < xs.length := by omega
    have ev : v = (v.toNat : Int) := by omega
    have hat : atI xs v = some xs[v.toNat] := by
      have h := atI_nat (List.getElem?_eq_getElem hv)
      rw [← ev] at h
      exact h
    exact ⟨l, xs, v, _, rfl, rfl, SqL.of (sb _ _ nla hl), hat, q H' _ sb hp (List.getElem_mem hv)⟩

/-! ### _law_key -/
def spKey : Sp := fun vs H Q _ => ∃ a : Addr, vs = [.ref a] ∧ PoolAt H a ∧ ∀ (H' : Hp) (t : Addr) (z : Str) (n : Int), SB a H H' → PoolAt H' a → H t = none → H' t = some (.tup [.str z, .int n]) → PyData.strOk z = true → Q (.ref t) H'
theorem scKey : FnScope ["_law_pool_here"] ["_law_pool_here"] (defScope sKey) := ⟨rfl, rfl, rfl, by decide +kernel, rfl, by decide +kernel, by decide +kernel⟩
theorem words_ok : ∀ v ∈ [V.str "ann", V.str "bob", V.str "abcdefgh"], ∃ z, v = V.str z ∧ PyData.strOk z = true := by
  intro v hv
  simp only [List.mem_cons, List.not_mem_nil, or_false] at hv
  rcases hv with rfl | rfl | rfl
  · exact ⟨_, rfl, by decide +kernel⟩
  · exact ⟨_, rfl, by decide +kernel⟩
  · exact ⟨_, rfl, by decide +kernel⟩
theorem ok_key {f fO fT : Addr} {fd fdO fdT : FuncData} (F : FnF K "_law_key" "_law_key" sKey [] [] f fd) (FO : FnF K "_law_one" "_law_one" sOne [] [] fO fdO) (gO : mg "_law_one" = some (.ref fO)) (FT : FnF K "_law_take" "_law_take" sTake [] [] fT fdT) (gT : mg "_law_take" = some (.ref fT)) (T : Txt K mg C) :
    FnOk P w K mg base CX0 3 f fd ["_law_pool_here"] spKey := by
  have GT : FnOk P w K mg base CX0 1 fT fdT ["_law_pool_here", "_law_most"] spTake := ok_take FT
  have bT : Binds K fdT ["_law_pool_here", "_law_most"] [] := FT.bindsN fun _ _ _ _ _ _ us hl => match us, hl with | [_, _], _ => rfl
  have GO : FnOk P w K mg base CX0 2 fO fdO ["_law_pool_here", "_law_some"] spOne := ok_one FO FT gT T
  have bO : Binds K fdO ["_law_pool_here", "_law_some"] [] := FO.bindsN fun _ _ _ _ _ _ us hl => match us, hl with | [_, _], _ => rfl
  refine F.ok scKey (fun vs H Q E h => ?_) (fun cdv A outer st H vs Q E hr h => ?_)
  · obtain ⟨a, rfl, _⟩ := h; rfl
  · obtain ⟨a, rfl, ha, q⟩ := h
    refine ⟨_, PSs.nox (pss_one (ps_ret (pe_tup (pa_cons (pe_call GO hr (by rfl) gO FO.kp bO .nil pass0 (pa_cons (pv 0) (pa_cons (pe_lst (pa_cons pe_str (pa_cons pe_str (pa_cons pe_str pa_nil)))) pa_nil)))
      (pa_cons (pe_op op_add pe_int (pe_call GT (hr.mono (by decide)) (by rfl) gT FT.kp bT .nil pass0 (pa_cons (pv 0) (pa_cons pe_int pa_nil)))) pa_nil))))), ?_⟩
    refine ⟨_, rfl, (by show 3 ≤ sizeLine; decide), fun l nl => ?_⟩
    have S1 := Same.new (o := .lst [V.str "ann", V.str "bob", V.str "abcdefgh"]) nl
    obtain ⟨x, y, hxy⟩ := ha
    have nla : l ≠ a := fun e => by rw [e, hxy] at nl; cases nl
    refine ⟨a, l, _, rfl, ⟨x, y, S1 _ _ hxy⟩, upd_same, nla, (by show 1 ≤ 3; decide), (by show 3 ≤ 1000; decide), fun H1 v sb1 hp1 hv => ?_⟩
    obtain ⟨z, rfl, oz⟩ := words_ok v hv
    refine ⟨_, rfl, a, 12, rfl, hp1, by decide, by decide, fun H2 n sb2 hp2 n0 n1 => ?_⟩
    refine ⟨_, _, rfl, rfl, (by show 2 ≤ sizeLine; decide), fun t nt => ?_⟩
    have sb : SB a H H2 := ((sb_same S1).trans sb1).trans sb2
    have nta : t ≠ a := fun e => by
      obtain ⟨x2, y2, h⟩ := hp2
      rw [e, h] at nt; cases nt
    have nt0 : H t = none := by
      cases e : H t with
      | none => rfl
      | some o => rw [sb _ _ nta e] at nt; cases nt
    obtain ⟨x2, y2, h2⟩ := hp2
    exact q _ t z (1 + n) (sb.then_same (Same.new nt)) ⟨x2, y2, (upd_ne nta.symm).trans h2⟩ nt0 upd_same oz
end
end K12
set_option Elab.async false
set_option linter.all false
set_option maxRecDepth 100000
set_option maxHeartbeats 4000000
namespace K12
open PySem PySem.Spec PyProof.Rows L2
section
variable {P : Program} {w : World} {K : PySem.W.Frag} {mg : Str → Option Value} {base : Heap} {C : Addr}
/-! ### _law_pool -/
def spPool (K : PySem.W.Frag) : Sp := fun vs H Q _ => ∃ (a : Addr) (k : Nat) (ns : List Int), vs = [.ref a, .int (k : Int)] ∧ k ≤ 100 ∧ SqL K H a (ns.map V.int) ∧ ns.length ≤ 100 ∧ ∀ (H' : Hp) (p : Addr), Same H H' → H p = none → PoolAt H' p → Q (.ref p) H'
theorem scPool : FnScope ["_law_script", "_law_k", "_law_cell", "_law_great", "_law_mixed"] ["_law_script", "_law_k"] (defScope sPool) := ⟨rfl, rfl, rfl, by decide +kernel, rfl, by decide +kernel, by decide +kernel⟩
theorem first_int (ns : List Int) (lo hi : Option Int) : ∃ c : Int, (cutV (ns.map V.int) lo hi ++ [V.int 0])[0]? = some (V.int c) := by
  cases h : cutV (ns.map V.int) lo hi with
  | nil => exact ⟨0, rfl⟩
  | cons v r =>
    have hv : v ∈ cutV (ns.map V.int) lo hi := by rw [h]; exact List.mem_cons_self
    unfold cutV at hv
    have := List.mem_of_mem_drop (List.mem_of_mem_take hv)
    obtain ⟨c, _, rfl⟩ := List.mem_map.mp this
    exact ⟨c, rfl⟩
theorem ok_pool {f : Addr} {fd : FuncData} (F : FnF K "_law_pool" "_law_pool" sPool [] [] f fd) (T : Txt K mg C) : FnOk P w K mg base CX0 1 f fd ["_law_script", "_law_k"] (spPool K) := by
  refine F.ok scPool (fun vs H Q E h => ?_) (fun cdv A outer st H vs Q E hr h => ?_)
  · obtain ⟨a, k, ns, rfl, _⟩ := h; rfl
  · obtain ⟨a, k, ns, rfl, hk, ha, hn, q⟩ := h
    refine ⟨_, PSs.nox (pss_cons (ps_set (i := 2) scPool.nd rfl (.inl rfl) (pe_ix ix_list (pe_op op_cat (pe_slice sl_list (pv 0) (po_some (pv 1)) (po_some (pe_op op_add (pv 1) pe_int))) (pe_lst (pa_cons pe_int pa_nil))) pe_int (fun _ _ => rfl)))
      (pss_cons (ps_set (i := 3) scPool.nd rfl (.inl rfl) (pe_callB (call_max2 rfl) (by rfl) T.max boot_max (pa_cons (pv 2) (pa_cons (pe_op op_sub (pe_un un_neg pe_int) (pv 2)) pa_nil))))
      (pss_cons (ps_set (i := 4) scPool.nd rfl (.inl rfl) (pe_op op_mod (pe_op op_mul (pe_op op_add (pe_op op_add (pe_op op_add (pe_op op_mod (pv 3) pe_int) (pe_op op_mul (pe_op op_mul pe_int (pv 1)) (pv 1))) (pe_op op_mul pe_int (pv 1))) pe_int) pe_int) pe_int))
      (pss_one (ps_ret (pe_lst (pa_cons (pe_op op_mul (pv 3) (pe_callTy call_int1 (by rfl) T.int boot_int (pa_cons (pe_cmpR op_ge (pv 3) (pe_op op_pow pe_int pe_int) (nomark _)) pa_nil))) (pa_cons (pv 4) pa_nil)))))))), ?_⟩
    refine ⟨_, rfl, _, rfl, k, rfl, _, rfl, _, _, rfl, rfl, _, rfl, a, _, rfl, ha, fun q1 n1 => ?_⟩
    have S1 := Same.new (o := .lst (cutV (ns.map V.int) (some (k : Int)) (some ((k : Int) + 1)))) n1
    have a1 : upd H q1 (.lst (cutV (ns.map V.int) (some (k : Int)) (some ((k : Int) + 1)))) q1 = some (.lst (cutV (ns.map V.int) (some (k : Int)) (some ((k : Int) + 1)))) := upd_same
    obtain ⟨c, hc⟩ := first_int ns (some (k : Int)) (some ((k : Int) + 1))
    have hl : (cutV (ns.map V.int) (some (k : Int)) (some ((k : Int) + 1))).length ≤ 100 := by
      have h := cutV_length (ns.map V.int) (some (k : Int)) (some ((k : Int) + 1))
      rw [List.length_map] at h
      omega
    generalize cutV (ns.map V.int) (some (k : Int)) (some ((k : Int) + 1)) = cs at S1 a1 hc hl
    refine ⟨(by show 1 ≤ sizeLine; decide), fun q2 n2 => ?_⟩
    generalize upd H q1 (.lst cs) = H1 at S1 a1 n2
    have S2 := Same.new (o := .lst [V.int 0]) n2
    have a2 : upd H1 q2 (.lst [V.int 0]) q2 = some (.lst [V.int 0]) := upd_same
    generalize upd H1 q2 (.lst [V.int 0]) = H2 at S2 a2
    refine ⟨q1, q2, _, _, rfl, rfl, S2 _ _ a1, a2, (by show cs.length + 1 ≤ sizeLine; exact line400 (by omega)), fun q3 n3 => ?_⟩
    have S3 := Same.new (o := .lst (cs ++ [V.int 0])) n3
    have a3 : upd H2 q3 (.lst (cs ++ [V.int 0])) q3 = some (.lst (cs ++ [V.int 0])) := upd_same
    generalize upd H2 q3 (.lst (cs ++ [V.int 0])) = H3 at S3 a3
    have S : Same H H3 := S1.trans (S2.trans S3)
    refine ⟨q3, _, 0, .int c, rfl, rfl, SqL.of a3, atI_nat (j := 0) hc, ?_⟩
    -- great
    refine ⟨_, rfl, 1, rfl, _, rfl, _, _, rfl, rfl, c, _, rfl, ?_⟩
    generalize (if -1 - c > c then -1 - c else c) = g
    -- mixed
    refine ⟨_, rfl, g, 2147483629, rfl, rfl, (by show (0 : Int) < 2147483629; decide), _, rfl, 7919, (k : Int), rfl, rfl, .inl ⟨by decide, by decide⟩, _, rfl, _, (k : Int), rfl, rfl, .inr ⟨by omega, by omega⟩, _, _, rfl, rfl, _, rfl, 31, (k : Int), rfl, rfl, .inl ⟨by decide, by decide⟩, _, _, rfl, rfl, _, _, rfl, rfl, _, 48271, rfl, rfl, .inr ⟨by decide, by decide⟩, _, 2147483647, rfl, rfl, (by show (0 : Int) < 2147483647; decide), ?_⟩
    generalize ((g % 2147483629 + 7919 * (k : Int) * (k : Int) + 31 * (k : Int) + 17) * 48271) % 2147483647 = mx
    refine ⟨_, rfl, _, rfl, 10, 18, rfl, rfl, ⟨by decide, by decide, by decide⟩, g, _, rfl, rfl, .inr ⟨_, rfl, g, _, rfl, rfl, .inr ?_, ?_⟩⟩
    · split <;> exact ⟨by decide, by decide⟩
    refine ⟨_, rfl, (by show 2 ≤ sizeLine; decide), fun p np => ?_⟩
    exact q _ p (S.trans (Same.new np)) (S.free np) ⟨_, _, upd_same⟩
end
end K12
set_option Elab.async false
set_option linter.all false
set_option maxRecDepth 100000
set_option maxHeartbeats 4000000
namespace K12
open PySem PySem.Spec PyProof.Rows L2
theorem tYes_ok {σ : L2.St} {H : Hp} {A B : Hp → Prop} (h : A H) : tYes σ H (fun b H3 => if b = true then A H3 else B H3) := by
  show if true = true then A H else B H
  rw [if_pos rfl]
  exact h
def sgn (c : Nat) : Str := ⟨#[c]⟩
theorem join_signs : ∀ zs : List Nat, Txt.join ("" : Str) (zs.map sgn) = ⟨zs.toArray⟩ := by
  intro zs
  unfold Txt.join
  rw [StrLaws.glued_eq_join]
  induction zs with
  | nil => rfl
  | cons c zs ih =>
    cases zs with
    | nil => rfl
    | cons d r =>
      show sgn c ++ ("" : Str) ++ Str.join ("" : Str) ((d :: r).map sgn) = _
      rw [ih]
      apply str_ext
      rw [Str.cps_append, Str.cps_append]
      show ((#[c] ++ (Str.ofString "").cps) ++ (d :: r).toArray).toList = c :: d :: r
      have e : (Str.ofString "").cps = #[] := by decide +kernel
      rw [e]
      simp
def menu : Str := "abcXYZ 09.,{}|!&"
theorem menu_len : menu.length = 16 := by decide +kernel
theorem menu_ok : ∀ i : Fin 16, ∃ c, menu.cps.toList[i.val]? = some c ∧ c < 1114112 := by decide +kernel
section
variable {P : Program} {w : World} {K : PySem.W.Frag} {mg : Str → Option Value} {base : Heap} {C : Addr}
def spLSigns : Sp := fun vs H Q _ => ∃ (a : Addr) (m : Int), vs = [.ref a, .int m] ∧ PoolAt H a ∧ 0 ≤ m ∧ m ≤ 100 ∧ ∀ (H' : Hp) (z : Str), SB a H H' → PoolAt H' a → (z.length : Int) ≤ m → (∀ c ∈ z.cps.toList, c < 1114112) → Q (.str z) H'
theorem scLSigns : FnScope ["_law_pool_here", "_law_most", "_law_menu", "_law_turn"] ["_law_pool_here", "_law_most"] (defScope sLSigns) := ⟨rfl, rfl, rfl, by decide +kernel, rfl, by decide +kernel, by decide +kernel⟩
theorem ok_lsigns {f fT : Addr} {fd fdT : FuncData} (F : FnF K "_law_signs" "_law_signs" sLSigns [] [] f fd) (FT : FnF K "_law_take" "_law_take" sTake [] [] fT fdT) (gT : mg "_law_take" = some (.ref fT)) (T : Txt K mg C) :
    FnOk P w K mg base CX0 2 f fd ["_law_pool_here", "_law_most"] spLSigns := by
  have GT : FnOk P w K mg base CX0 1 fT fdT ["_law_pool_here", "_law_most"] spTake := ok_take FT
  have bT : Binds K fdT ["_law_pool_here", "_law_most"] [] := FT.bindsN fun _ _ _ _ _ _ us hl => match us, hl with | [_, _], _ => rfl
  refine F.ok scLSigns (fun vs H Q E h => ?_) (fun cdv A outer st H vs Q E hr h => ?_)
  · obtain ⟨a, m, rfl, _⟩ := h; rfl
  · obtain ⟨a, m, rfl, ha, h1, h2, q⟩ := h
    refine ⟨_, PSs.nox (pss_cons (ps_set (i := 2) scLSigns.nd rfl (.inr rfl) pe_str)
      (pss_one (ps_ret (pe_join pe_str (pe_lc (own := [("_law_turn", 3)]) (g := gName 3) (tt := tYes) rfl scLSigns.nd (pi_range1 (by rfl) T.range (pa_cons (pe_call GT hr (by rfl) gT FT.kp bT .nil pass0 (pa_cons (pv 0) (pa_cons (pe_op op_add (pv 1) pe_int) pa_nil))) pa_nil))
        (blkOk_by (own := [("_law_turn", 3)]) (N := ["_law_pool_here", "_law_most", "_law_menu", "_law_turn"]) (sc := defScope sLSigns) (by decide +kernel))
        (fun _ _ _ _ _ => pg_name (i := 3) scLSigns.nd rfl (Or.inl rfl)) (fun _ _ _ _ _ => pts_nil)
        (fun _ _ _ _ _ => pe_ix ix_str (pv 2) (pe_call GT hr (by rfl) gT FT.kp bT .nil pass0 (pa_cons (pv 0) (pa_cons (pe_callB call_len_str (by rfl) T.len PySem.boot_len (pa_cons (pv 2) pa_nil)) pa_nil))) (fun _ _ => rfl))))))), ?_⟩
    refine ⟨⟨_, rfl⟩, ?_⟩
    refine ⟨_, rfl, _, rfl, _, _, rfl, rfl, a, m + 1, rfl, ha, by omega, by omega, fun H1 n sb1 hp1 n0 n1 => ⟨n, rfl, by omega, by omega, fun D nD => ?_⟩⟩
    obtain ⟨x1, y1, hxy⟩ := hp1
    have nDa : D ≠ a := fun e => by rw [e, hxy] at nD; cases nD
    refine lc_range (lo := 0) (n := n.toNat) (fun i H' => ∃ zs : List Nat, SB a H H' ∧ PoolAt H' a ∧ H' D = some (.lst ((zs.map sgn).map V.str)) ∧ zs.length = i ∧ ∀ c ∈ zs, c < 1114112)
      ⟨[], sb1.then_same (Same.new nD), ⟨x1, y1, (upd_ne nDa.symm).trans hxy⟩, upd_same, rfl, fun c hc => by cases hc⟩ ?_ ?_
    · rintro i H2 hi ⟨zs, sb2, hp2, hD2, lz, oz⟩
      refine ⟨rfl, tYes_ok ?_⟩
      refine ⟨_, rfl, _, rfl, _, rfl, menu, rfl, (by rw [menu_len]; decide), a, _, rfl, hp2, by rw [menu_len]; decide, by rw [menu_len]; decide, fun H3 v sb3 hp3 v0 v1 => ?_⟩
      rw [menu_len] at v1
      obtain ⟨c, hc, oc⟩ := menu_ok ⟨v.toNat, by omega⟩
      have ev : ((v.toNat : Nat) : Int) = v := by omega
      have hat := atI_nat hc
      dsimp only at hat
      rw [ev] at hat
      have hD3 := sb3 _ _ nDa hD2
      refine ⟨menu, v, c, rfl, rfl, (by rw [menu_len]; decide), hat, _, hD3, (by rw [List.length_map, List.length_map, lz]; exact Nat.lt_of_lt_of_le (show i < 1000 by omega) (line400 (Nat.le_refl _))), zs ++ [c], ?_, ?_, ?_, ?_, ?_⟩
      · exact fun b o nb e => by
          have nbD : b ≠ D := fun q => by
            have := sb1 _ _ nb e
            rw [q, nD] at this; cases this
          rw [upd_ne nbD]
          exact sb3 _ _ nb (sb2 _ _ nb e)
      · obtain ⟨x3, y3, h3⟩ := hp3
        exact ⟨x3, y3, (upd_ne nDa.symm).trans h3⟩
      · rw [upd_same, List.map_append, List.map_append]; rfl
      · rw [List.length_append, lz]; rfl
      · intro d hd
        rcases List.mem_append.mp hd with hd | hd
        · exact oz d hd
        · rw [List.mem_singleton.mp hd]; exact oc
    · rintro H2 ⟨zs, sb2, hp2, hD2, lz, oz⟩
      refine ⟨("" : Str), D, zs.map sgn, rfl, rfl, .inl (SqL.of hD2), ?_, ?_⟩
      · have e0 : ("" : Str).length = 0 := by decide +kernel
        have es : ∀ l : List Nat, (((l.map sgn).map (·.length)) : List Nat).sum = l.length := by
          intro l
          induction l with
          | nil => rfl
          | cons c r ih =>
            show 1 + ((r.map sgn).map (·.length)).sum = r.length + 1
            rw [ih]; omega
        rw [e0, es, lz]
        omega
      · rw [join_signs]
        refine q H2 _ sb2 hp2 ?_ ?_
        · show ((zs.toArray.size : Nat) : Int) ≤ m
          rw [List.size_toArray, lz]
          omega
        · intro c hc
          exact oz c (by simpa using hc)
end
end K12
set_option Elab.async false
set_option linter.all false
set_option maxRecDepth 100000
set_option maxHeartbeats 4000000
namespace K12
open PySem PySem.Spec PyProof.Rows L2
theorem tilde : (Str.ofString "~") = ⟨#[126]⟩ := by decide +kernel
theorem same_new {H H' : Hp} {D : Addr} {o : HO} (s : Same H H') (n : H D = none) : Same H (upd H' D o) := fun b u e => (upd_ne (ne_of_none e n)).trans (s b u e)
/-! ### the puts, as they stand -/
abbrev Pt : Type := Nat × Str × V
abbrev IsPt (H : Hp) (t : Addr) (q : Pt) : Prop := H t = some (.tup [.int (q.1 : Int), .str q.2.1, q.2.2])
def PutsAt (H : Hp) (L : Addr) (ts : List Addr) (ps : List Pt) : Prop := H L = some (.lst (ts.map V.ref)) ∧ Paired (IsPt H) ts ps
def pz (q : Pt) : Nat × List En := (q.1, es q.2.1 q.2.2)
theorem pz_len (q : Pt) : (pz q).2.length = q.2.1.length := es_len _ _
theorem paired_snoc {α β : Type} {F : α → β → Prop} : ∀ {xs : List α} {ys : List β} {x : α} {y : β}, Paired F xs ys → F x y → Paired F (xs ++ [x]) (ys ++ [y])
  | _, _, _, _, .nil, h => .cons h .nil
  | _, _, _, _, .cons r t, h => .cons r (paired_snoc t h)
theorem paired_last {α β : Type} {F : α → β → Prop} : ∀ {xs : List α} {ys : List β} {x : α} {y : β}, F x y → Paired F xs ys → F (xs.getLastD x) (ys.getLastD y)
  | _, _, _, _, h, .nil => h
  | a :: xs, b :: ys, x, y, _, .cons r t => by
    have := paired_last r t
    cases xs <;> cases ys <;> exact this
theorem getLastD_split (x : V) (xs : List V) : ∃ ys, x :: xs = ys ++ [xs.getLastD x] := by
  induction xs generalizing x with
  | nil => exact ⟨[], rfl⟩
  | cons y r ih =>
    obtain ⟨ys, h⟩ := ih y
    refine ⟨x :: ys, ?_⟩
    have e : (y :: r).getLastD x = r.getLastD y := by cases r <;> rfl
    rw [e, List.cons_append, ← h]
theorem map_getLastD (a : Addr) : ∀ as : List Addr, (as.map V.ref).getLastD (.ref a) = V.ref (as.getLastD a)
  | [] => rfl
  | b :: as => by
    have h := map_getLastD b as
    cases as <;> exact h
theorem ens_same {H H' : Hp} {us : List Addr} {r : List En} (h : Paired (IsEn H) us r) (s : Same H H') : Paired (IsEn H') us r := Paired.mapP h fun _ _ e => s _ _ e
theorem ens_sb {H H' : Hp} {x : Addr} {l : List V} {us : List Addr} {r : List En} (h : Paired (IsEn H) us r) (s : SB x H H') (hx : H x = some (.lst l)) : Paired (IsEn H') us r :=
  Paired.mapP h fun t _ e => s _ _ (ne_of e hx (by intro z; cases z)) e
theorem pts_same {H H' : Hp} {L : Addr} {ts : List Addr} {ps : List Pt} (h : PutsAt H L ts ps) (s : Same H H') : PutsAt H' L ts ps := ⟨s _ _ h.1, Paired.mapP h.2 fun _ _ e => s _ _ e⟩
theorem far_max (ps : List Pt) (m : Int) (hm : m ∈ (0 : Int) :: ps.map fun q => ((q.1 : Int) + (q.2.1.length : Int))) (hle : ∀ y ∈ (0 : Int) :: ps.map (fun q => ((q.1 : Int) + (q.2.1.length : Int))), y ≤ m) : m = (far (ps.map pz) : Int) := by
  have g := farG_ge (ps.map pz) 0
  have h0 : 0 ≤ m := hle 0 List.mem_cons_self
  have hl : far (ps.map pz) ≤ m.toNat := by
    refine farG_le _ _ _ (Nat.zero_le _) fun p hp => ?_
    obtain ⟨q, hq, rfl⟩ := List.mem_map.mp hp
    have := hle _ (List.mem_cons_of_mem _ (List.mem_map.mpr ⟨q, hq, rfl⟩))
    rw [pz_len]
    show q.1 + q.2.1.length ≤ m.toNat
    omega
  have hu : m ≤ (far (ps.map pz) : Int) := by
    rcases List.mem_cons.mp hm with e | hm
    · rw [e]; omega
    · obtain ⟨q, hq, rfl⟩ := List.mem_map.mp hm
      have := g.2 (pz q) (List.mem_map.mpr ⟨q, hq, rfl⟩)
      rw [pz_len] at this
      show (q.1 : Int) + (q.2.1.length : Int) ≤ ((farG 0 (ps.map pz) : Nat) : Int)
      have e : (pz q).1 = q.1 := rfl
      omega
  omega
theorem over_take (ps : List Pt) (i j : Nat) (q : Pt) (h : ps[j]? = some q) : over ((ps.take (j + 1)).map pz) i = over ((ps.take j).map pz) i ++ (if q.1 ≤ i ∧ i < q.1 + q.2.1.length then ((es q.2.1 q.2.2)[i - q.1]?).toList else []) := by
  have e : ps.take (j + 1) = ps.take j ++ [q] := by rw [List.take_add_one, h]; rfl
  rw [e, List.map_append]
  show over ((ps.take j).map pz ++ [pz q]) i = _
  have a : ∀ l1 l2 : List (Nat × List En), over (l1 ++ l2) i = over l1 i ++ over l2 i := fun l1 l2 => by unfold over; rw [List.filterMap_append]
  rw [a, over_cons]
  congr 1
  show (if q.1 ≤ i ∧ i < q.1 + (pz q).2.length then _ else _) ++ [] = _
  rw [pz_len, List.append_nil]
  rfl
section
variable {P : Program} {w : World} {K : PySem.W.Frag} {mg : Str → Option Value} {base : Heap} {C : Addr}
abbrev duN : List Str := ["_law_puts", "_law_far", "_law_found", "_law_at", "_law_over", "_law_spot", "_law_signs_here", "_law_who"]
abbrev duOwn : List (Str × Nat) := [("_law_spot", 5), ("_law_signs_here", 6), ("_law_who", 7)]
def spDue : Sp := fun vs H Q _ => ∃ (L : Addr) (ts : List Addr) (ps : List Pt), vs = [.ref L] ∧ PutsAt H L ts ps ∧ ps.length ≤ 100 ∧ (∀ q ∈ ps, q.1 + q.2.1.length ≤ 200) ∧
  ∀ (H' : Hp) (p : Addr), Same H H' → H p = none → RowAt H' p (fold fe [] (ps.map pz)) → Q (.ref p) H'
theorem scDue : FnScope duN ["_law_puts"] (defScope sDue) := ⟨rfl, rfl, rfl, by decide +kernel, rfl, by decide +kernel, by decide +kernel⟩
theorem ok_due {f : Addr} {fd : FuncData} (F : FnF K "_law_due" "_law_due" sDue [] [] f fd) (T : Txt K mg C) : FnOk P w K mg base CX0 1 f fd ["_law_puts"] spDue := by
  refine F.ok scDue (fun vs H Q E h => ?_) (fun cdv A outer st H vs Q E hr h => ?_)
  · obtain ⟨L, ts, ps, rfl, _⟩ := h; rfl
  · obtain ⟨L, ts, ps, rfl, hP, hps, hb, q⟩ := h
    refine ⟨_, PSs.nox (pss_cons (ps_set (i := 1) scDue.nd rfl (.inl rfl) (pe_callB (cr_max rfl) (by rfl) T.max boot_max (pa_cons (pe_op op_cat (pe_lst (pa_cons pe_int pa_nil))
        (pe_lc (own := duOwn) (g := gTup K 3 (gCons (gName 5) (gCons (gName 6) (gCons (gName 7) gNil)))) (tt := tYes) rfl scDue.nd (pi_list (pv 0)) (blkOk_by (own := duOwn) (N := duN) (sc := defScope sDue) (by decide +kernel))
          (fun _ _ _ _ _ => pg_tup rfl (pgs_cons (pg_name (i := 5) scDue.nd rfl (Or.inl rfl)) (pgs_cons (pg_name (i := 6) scDue.nd rfl (Or.inl rfl)) (pgs_cons (pg_name (i := 7) scDue.nd rfl (Or.inl rfl)) pgs_nil)))) (fun _ _ _ _ _ => pts_nil)
          (fun _ _ _ _ _ => pe_op op_add (pv 5) (pe_callB call_len_str (by rfl) T.len PySem.boot_len (pa_cons (pv 6) pa_nil))))) pa_nil)))
      (pss_cons (ps_set (i := 2) scDue.nd rfl (.inl rfl) (pe_lst pa_nil))
      (pss_cons (ps_for PassesOwn.never rfl (pi_range1 (by rfl) T.range (pa_cons (pv 1) pa_nil)) (pg_name (i := 3) scDue.nd rfl (Or.inr rfl))
        (pss_cons (ps_setLc (i := 4) (own := duOwn) (g := gTup K 3 (gCons (gName 5) (gCons (gName 6) (gCons (gName 7) gNil)))) rfl scDue.nd rfl rfl (sw_true rfl rfl rfl (by decide +kernel)) (pi_list (pv 0)) (blkOk_by (own := duOwn) (N := duN) (sc := defScope sDue) (by decide +kernel))
          (fun _ _ _ _ _ => pg_tup rfl (pgs_cons (pg_name (i := 5) scDue.nd rfl (Or.inl rfl)) (pgs_cons (pg_name (i := 6) scDue.nd rfl (Or.inl rfl)) (pgs_cons (pg_name (i := 7) scDue.nd rfl (Or.inl rfl)) pgs_nil))))
          (fun _ _ _ _ _ => pts_one (pt_chain op_le op_lt (pv 5) (pv 3) (pe_op op_add (pv 5) (pe_callB call_len_str (by rfl) T.len PySem.boot_len (pa_cons (pv 6) pa_nil)))))
          (fun _ _ _ _ _ => pe_tup (pa_cons (pe_ix ix_str (pv 6) (pe_op op_sub (pv 3) (pv 5)) (fun _ _ => rfl)) (pa_cons (pv 7) pa_nil))))
        (pss_one (ps_expr (pe_bm PySem.F.plainAttrs_list PySem.F.slot_list_append PySem.F.type_list_append mt_append (pv 2) (pa_cons (pe_ix ix_list (pe_op op_cat (pe_lst (pa_cons (pe_tup (pa_cons pe_str (pa_cons pe_non pa_nil))) pa_nil)) (pv 4)) (pe_un un_neg pe_int) (fun _ _ => rfl)) pa_nil))))))
      (pss_one (ps_ret (pv 2)))))), ?_⟩
    have lts : ts.length = ps.length := Paired.length hP.2
    -- far
    refine ⟨(by show 1 ≤ sizeLine; decide), fun q1 n1 => ?_⟩
    have S1 := Same.new (o := .lst [V.int 0]) n1
    have a1 : upd H q1 (.lst [V.int 0]) q1 = some (.lst [V.int 0]) := upd_same
    generalize upd H q1 (.lst [V.int 0]) = H1 at S1 a1
    have P1 := pts_same hP S1
    refine ⟨_, rfl, L, rfl, ⟨_, SqL.of P1.1⟩, fun D nD => ?_⟩
    have zl : ∀ q : Pt, q ∈ ps → q.2.1.length ≤ sizeLine := fun q hq => line400 (by have := hb q hq; omega)
    refine lc_list (K := K) (a := L) (xs := ts.map V.ref) (fun i H' => Same H1 H' ∧ H' D = some (.lst ((ps.take i).map fun q => V.int ((q.1 : Int) + (q.2.1.length : Int)))))
      ⟨Same.new nD, upd_same⟩ (fun i H' _ ⟨s, _⟩ => SqL.of (s _ _ P1.1)) ?_ ?_
    · rintro i x H' hx ⟨s, hD⟩
      rw [List.getElem?_map, Option.map_eq_some_iff] at hx
      obtain ⟨t, ht, rfl⟩ := hx
      obtain ⟨q, hq, hT⟩ := LiI.paired_get P1.2 ht
      have hqm : q ∈ ps := List.mem_of_getElem? hq
      refine ⟨t, _, rfl, SqT.of (s _ _ hT), rfl, _, _, rfl, _, _, rfl, _, _, rfl, rfl, rfl, tYes_ok ?_⟩
      refine ⟨_, rfl, _, rfl, q.2.1, rfl, zl q hqm, _, _, rfl, rfl, _, hD, ?_, ?_, ?_⟩
      · rw [List.length_map, List.length_take]
        exact Nat.lt_of_le_of_lt (Nat.min_le_right _ _) (small1000 (by omega))
      · exact same_new s nD
      · rw [upd_same, List.take_add_one, hq, List.map_append]
        rfl
    · rintro H2 ⟨s2, hD2⟩
      rw [List.take_of_length_le (by rw [List.length_map, lts]; exact Nat.le_refl _)] at hD2
      refine ⟨q1, D, _, _, rfl, rfl, s2 _ _ a1, hD2, ?_, fun q2 n2 => ?_⟩
      · rw [List.length_map]
        show 1 + ps.length ≤ sizeLine
        exact line400 (by omega)
      have S2 := Same.new (o := .lst ([V.int 0] ++ ps.map fun q => V.int ((q.1 : Int) + (q.2.1.length : Int)))) n2
      have a2 : upd H2 q2 (.lst ([V.int 0] ++ ps.map fun q => V.int ((q.1 : Int) + (q.2.1.length : Int)))) q2 = some (.lst (((0 : Int) :: ps.map fun q => ((q.1 : Int) + (q.2.1.length : Int))).map V.int)) := by
        rw [upd_same, List.map_cons, List.map_map]; rfl
      generalize upd H2 q2 (.lst ([V.int 0] ++ ps.map fun q => V.int ((q.1 : Int) + (q.2.1.length : Int)))) = H3 at S2 a2
      have S3 : Same H H3 := S1.trans (s2.trans S2)
      refine ⟨q2, _, rfl, SqL.of a2, Nat.succ_pos _, fun m hm hle => ?_⟩
      have em := far_max ps m hm hle
      subst em
      have hfar : far (ps.map pz) ≤ 200 := farG_le _ _ _ (Nat.zero_le _) fun p hp => by
        obtain ⟨q, hq, rfl⟩ := List.mem_map.mp hp
        rw [pz_len]
        exact hb q hq
      -- found = []
      refine ⟨Nat.zero_le _, fun fd nfd => ?_⟩
      have nfd0 : H fd = none := S3.free nfd
      have S4 := Same.new (o := .lst []) nfd
      have P4 := pts_same hP (S3.trans S4)
      -- for at in range(far)
      refine ⟨_, rfl, _, rfl, by omega, by omega, ?_⟩
      refine for_range (lo := 0) (n := ((far (ps.map pz) : Nat) : Int).toNat) (fun i σ H' => ∃ v3 v4 : Option V, σ = [some (.ref L), some (.int (far (ps.map pz) : Nat)), some (.ref fd), v3, v4, none, none, none] ∧ Same H H' ∧
        ∃ us : List Addr, H' fd = some (.lst (us.map V.ref)) ∧ Paired (IsEn H') us ((List.range i).map fun j => (over (ps.map pz) j).getLastD fe))
        ⟨none, none, rfl, S3.trans S4, [], upd_same, .nil⟩ ?_ ?_
      · rintro i σ H5 hi ⟨v3, v4, rfl, S5, us, hfd, hus⟩
        rw [Int.toNat_natCast] at hi
        have P5 := pts_same hP S5
        have lus : us.length = i := by
          have := Paired.length hus
          simpa using this
        -- over = [..]
        refine ⟨_, rfl, L, rfl, ⟨_, SqL.of P5.1⟩, fun D2 nD2 => ?_⟩
        refine lc_list (K := K) (a := L) (xs := ts.map V.ref) (fun j H' => Same H5 H' ∧ ∃ os : List Addr, H' D2 = some (.lst (os.map V.ref)) ∧ os.length ≤ j ∧ Paired (IsEn H') os (over ((ps.take j).map pz) i))
          ⟨Same.new nD2, [], upd_same, Nat.le_refl _, .nil⟩ (fun j H' _ ⟨s, _⟩ => SqL.of (s _ _ P5.1)) ?_ ?_
        · rintro j x H6 hx ⟨s6, os, hD6, los, hos⟩
          have hjp : j < ps.length := by
            have := (List.getElem?_eq_some_iff.mp hx).1
            rw [List.length_map, lts] at this
            exact this
          rw [List.getElem?_map, Option.map_eq_some_iff] at hx
          obtain ⟨t, ht, rfl⟩ := hx
          obtain ⟨q, hq, hT⟩ := LiI.paired_get P5.2 ht
          have hqm : q ∈ ps := List.mem_of_getElem? hq
          have hov := over_take ps i j q hq
          refine ⟨t, _, rfl, SqT.of (s6 _ _ hT), rfl, _, _, rfl, _, _, rfl, _, _, rfl, rfl, rfl, ?_⟩
          refine ⟨_, rfl, _, rfl, _, _, rfl, rfl, _, rfl, ite2 (fun h1 => ?_) (fun h1 => ?_)⟩
          · have h1' := of_decide_eq_true h1
            refine ⟨_, rfl, _, rfl, q.2.1, rfl, zl q hqm, _, _, rfl, rfl, _, _, rfl, rfl, _, rfl, ite2 (fun h2 => ?_) (fun h2 => ?_)⟩
            · have h2' := of_decide_eq_true h2
              have b1 : q.1 ≤ i := by omega
              have b2 : i < q.1 + q.2.1.length := by omega
              have b3 : i - q.1 < q.2.1.cps.toList.length := by
                rw [Array.length_toList]
                show i - q.1 < q.2.1.length
                omega
              have hc := List.getElem?_eq_getElem b3
              have hat := atI_nat hc
              have ei : ((0 : Int) + (i : Int)) - (q.1 : Int) = ((i - q.1 : Nat) : Int) := by omega
              refine ⟨_, rfl, _, rfl, _, rfl, _, _, rfl, rfl, q.2.1, _, _, rfl, rfl, zl q hqm, by rw [ei]; exact hat, _, rfl, (by show 2 ≤ sizeLine; decide), fun tn ntn => ?_⟩
              have St := Same.new (o := .tup [V.str ⟨#[q.2.1.cps.toList[i - q.1]]⟩, q.2.2]) ntn
              have at_ : upd H6 tn (.tup [V.str ⟨#[q.2.1.cps.toList[i - q.1]]⟩, q.2.2]) tn = some (.tup [V.str ⟨#[q.2.1.cps.toList[i - q.1]]⟩, q.2.2]) := upd_same
              generalize upd H6 tn (.tup [V.str ⟨#[q.2.1.cps.toList[i - q.1]]⟩, q.2.2]) = H7 at St at_
              have hD7 := St _ _ hD6
              have hos7 : Paired (IsEn H7) (os ++ [tn]) (over ((ps.take (j + 1)).map pz) i) := by
                rw [hov, if_pos ⟨b1, b2⟩]
                have e2 : (es q.2.1 q.2.2)[i - q.1]? = some (q.2.1.cps.toList[i - q.1], q.2.2) := by
                  unfold es
                  rw [List.getElem?_map, hc]; rfl
                rw [e2]
                exact paired_snoc (ens_same hos St) at_
              refine ⟨_, hD7, ?_, same_new (s6.trans St) nD2, os ++ [tn], ?_, ?_, ?_⟩
              · rw [List.length_map]
                exact Nat.lt_of_le_of_lt los (small1000 (by omega))
              · rw [upd_same, List.map_append]; rfl
              · rw [List.length_append, List.length_singleton]; omega
              · exact ens_sb hos7 SB.upd hD7
            · have h2' : ¬ _ := fun z => h2 (decide_eq_true z)
              refine ⟨s6, os, hD6, by omega, ?_⟩
              rw [hov, if_neg (by omega), List.append_nil]
              exact hos
          · have h1' : ¬ _ := fun z => h1 (decide_eq_true z)
            refine ⟨_, rfl, iteF ⟨s6, os, hD6, by omega, ?_⟩⟩
            rw [hov, if_neg (by omega), List.append_nil]
            exact hos
        · rintro H6 ⟨s6, os, hD6, los, hos⟩
          rw [List.length_map, lts] at los
          rw [List.take_of_length_le (by rw [List.length_map, lts]; exact Nat.le_refl _)] at hos
          -- found.append(([("~", None)] + over)[-1])
          refine ⟨_, rfl, .inl ⟨rfl, _, SqL.of (s6 _ _ hfd)⟩, (by show 2 ≤ sizeLine; decide), fun t0 nt0 => ?_⟩
          have St := Same.new (o := .tup [V.str "~", V.non]) nt0
          have at0 : upd H6 t0 (.tup [V.str "~", V.non]) t0 = some (.tup [V.str "~", V.non]) := upd_same
          generalize upd H6 t0 (.tup [V.str "~", V.non]) = H7 at St at0
          refine ⟨(by show 1 ≤ sizeLine; decide), fun q6 nq6 => ?_⟩
          have Su := Same.new (o := .lst [V.ref t0]) nq6
          have aq6 : upd H7 q6 (.lst [V.ref t0]) q6 = some (.lst [V.ref t0]) := upd_same
          generalize upd H7 q6 (.lst [V.ref t0]) = H8 at Su aq6
          refine ⟨_, rfl, q6, D2, _, _, rfl, rfl, aq6, Su _ _ (St _ _ hD6), ?_, fun q7 nq7 => ?_⟩
          · rw [List.length_map]
            show 1 + os.length ≤ sizeLine
            exact line400 (by omega)
          have Sv := Same.new (o := .lst ([V.ref t0] ++ os.map V.ref)) nq7
          have aq7 : upd H8 q7 (.lst ([V.ref t0] ++ os.map V.ref)) q7 = some (.lst ([V.ref t0] ++ os.map V.ref)) := upd_same
          generalize upd H8 q7 (.lst ([V.ref t0] ++ os.map V.ref)) = H9 at Sv aq7
          obtain ⟨ys, hys⟩ := getLastD_split (V.ref t0) (os.map V.ref)
          have hat : atI ([V.ref t0] ++ os.map V.ref) (-1) = some (V.ref (os.getLastD t0)) := by
            show atI (V.ref t0 :: os.map V.ref) (-1) = _
            rw [hys, map_getLastD]
            exact atI_last _ _
          have S9 : Same H6 H9 := St.trans (Su.trans Sv)
          have hfd9 := S9 _ _ (s6 _ _ hfd)
          refine ⟨1, rfl, q7, _, -1, _, rfl, rfl, SqL.of aq7, hat, fd, _, _, rfl, rfl, hfd9, ?_, ?_⟩
          · rw [List.length_map, lus]
            exact Nat.lt_of_lt_of_le (show i < 1000 by omega) (line400 (Nat.le_refl _))
          have hfe : IsEn H9 t0 fe := by
            have e := Sv _ _ (Su _ _ at0)
            rw [tilde] at e
            exact e
          have hlast : IsEn H9 (os.getLastD t0) ((over (ps.map pz) i).getLastD fe) := paired_last (F := IsEn H9) hfe (ens_same hos S9)
          refine ⟨_, _, rfl, same_new (S5.trans (s6.trans S9)) nfd0, us ++ [os.getLastD t0], ?_, ?_⟩
          · rw [upd_same, List.map_append]; rfl
          · rw [List.range_succ, List.map_append]
            exact ens_sb (paired_snoc (ens_same hus (s6.trans S9)) hlast) SB.upd hfd9
      · rintro σ H5 ⟨v3, v4, rfl, S5, us, hfd, hus⟩
        rw [Int.toNat_natCast, ← fold_due] at hus
        exact ⟨_, rfl, q H5 fd S5 nfd0 ⟨us, hfd, hus⟩⟩
end
end K12
set_option Elab.async false
set_option linter.all false
set_option maxRecDepth 100000
set_option maxHeartbeats 4000000
namespace K12
open PySem PySem.Spec PyProof.Rows L2
section
variable {K : PySem.W.Frag}
theorem binds_init {f : Addr} {fd : FuncData} (F : FnF K "__init__" "Piece.__init__" sInit [.int 60] [] f fd) : Binds K fd ["self", "size"] [] := by
  obtain ⟨ds, v, b⟩ := F.binds1 (ps := ["self", "size"]) 2 1 (by simp) rfl fun T kV doc pm an cdv ct us its hl hl2 => match us, hl, its, hl2 with | [_, _], _, [_], _ => ⟨_, rfl, rfl⟩
  cases v
  exact b
theorem binds_put {f : Addr} {fd : FuncData} (F : FnF K "put" "Piece.put" sPut [] [("mark", .non)] f fd) : ∃ ds, Vals [V.non] ds ∧ Binds K fd ["self", "place", "signs", "mark"] ds :=
  F.binds0 (ps := ["self", "place", "signs", "mark"]) 3 (by simp) rfl fun D doc pm an cdv ct us ks hl hl2 => match us, hl, ks, hl2 with | [_, _, _], _, [_], _ => ⟨_, _, _, _, _, _, rfl, rfl, rfl⟩
theorem kbinds_put {f : Addr} {fd : FuncData} (F : FnF K "put" "Piece.put" sPut [] [("mark", .non)] f fd) : KBn K fd ["self", "place", "signs", "mark"] 3 ["mark"] (fun us ws => us ++ ws) (fun vs zs => vs ++ zs) := by
  obtain ⟨oc, od, dV, kV, doc, pm, an, cdv, ct, osl, rfl, lk, hcd, hD, hK⟩ := F.ex
  rcases hD with ⟨_, rfl⟩ | ⟨e, _⟩
  · refine ⟨fun s us ws X l1 l2 => ?_, fun r1 r2 => r1.append r2⟩
    match us, l1, ws, l2 with
    | [_, _, _], _, [_], _ => exact .of_eq rfl
  · exact absurd rfl e
end
end K12
set_option Elab.async false
set_option linter.all false
set_option maxRecDepth 100000
set_option maxHeartbeats 4000000
namespace K12
open PySem PySem.Spec PyProof.Rows L2
/-! ### what a turn of the law's inner loop keeps -/
theorem tup_sb {H H' : Hp} {x t : Addr} {l : List V} (s : SB x H H') (hx : ∀ l, H x ≠ some (.tup l)) (h : H t = some (.tup l)) : H' t = some (.tup l) :=
  s _ _ (fun e => hx l (e ▸ h)) h
theorem Mk1.sb {H H' : Hp} {x : Addr} {m : V} (h : Mk1 H m) (s : SB x H H') (hx : ∀ l, H x ≠ some (.tup l)) : Mk1 H' m := by
  rcases h with h | ⟨a, w, n, e, ha, o⟩
  · exact .inl h
  · exact .inr ⟨a, w, n, e, tup_sb s hx ha, o⟩
theorem pts_tups {H H' : Hp} {x : Addr} {ts : List Addr} {ps : List Pt} (h : Paired (IsPt H) ts ps) (s : SB x H H') (hx : ∀ l, H x ≠ some (.tup l)) : Paired (IsPt H') ts ps :=
  Paired.mapP h fun _ _ e => tup_sb s hx e
structure Inn (C : Addr) (H0 H : Hp) (pl L p o : Addr) (w : Int) (ts : List Addr) (ps : List Pt) (dxp lp dxo lo : Addr) (r r2 : List En) : Prop where
  same : Same H0 H
  n0 : H0 pl = none
  n1 : H0 L = none
  n2 : H0 p = none
  n3 : H0 o = none
  pool : PoolAt H pl
  puts : PutsAt H L ts ps
  pc : PieceAt C H p dxp lp w r
  ot : PieceAt C H o dxo lo w r2
  npo : p ≠ o
  nL : L ≠ pl
  a1 : lp ≠ pl
  a2 : lp ≠ L
  b1 : lo ≠ pl
  b2 : lo ≠ L
  mrk : ∀ q ∈ ps, Mk1 H q.2.2
section
variable {C : Addr} {H0 H H' : Hp} {pl L p o : Addr} {w : Int} {ts : List Addr} {ps : List Pt} {dxp lp dxo lo : Addr} {r r2 : List En}
theorem Inn.ppl (I : Inn C H0 H pl L p o w ts ps dxp lp dxo lo r r2) : p ≠ pl := by
  obtain ⟨x, y, h⟩ := I.pool
  exact ne_of I.pc.ins h (by intro z; cases z)
theorem Inn.opl (I : Inn C H0 H pl L p o w ts ps dxp lp dxo lo r r2) : o ≠ pl := by
  obtain ⟨x, y, h⟩ := I.pool
  exact ne_of I.ot.ins h (by intro z; cases z)
theorem Inn.pL (I : Inn C H0 H pl L p o w ts ps dxp lp dxo lo r r2) : p ≠ L := ne_of I.pc.ins I.puts.1 (by intro z; cases z)
theorem Inn.oL (I : Inn C H0 H pl L p o w ts ps dxp lp dxo lo r r2) : o ≠ L := ne_of I.ot.ins I.puts.1 (by intro z; cases z)
theorem Inn.lpo (I : Inn C H0 H pl L p o w ts ps dxp lp dxo lo r r2) : lp ≠ o := ne_of I.pc.mkl I.ot.ins (by intro z; cases z)
theorem Inn.lop (I : Inn C H0 H pl L p o w ts ps dxp lp dxo lo r r2) : lo ≠ p := ne_of I.ot.mkl I.pc.ins (by intro z; cases z)
/-- new objects -/
theorem Inn.grow (I : Inn C H0 H pl L p o w ts ps dxp lp dxo lo r r2) (s : Same H H') : Inn C H0 H' pl L p o w ts ps dxp lp dxo lo r r2 where
  same := I.same.trans s
  n0 := I.n0
  n1 := I.n1
  n2 := I.n2
  n3 := I.n3
  pool := let ⟨x, y, h⟩ := I.pool; ⟨x, y, s _ _ h⟩
  puts := pts_same I.puts s
  pc := I.pc.same s
  ot := I.ot.same s
  npo := I.npo
  nL := I.nL
  a1 := I.a1
  a2 := I.a2
  b1 := I.b1
  b2 := I.b2
  mrk := fun q hq => (I.mrk q hq).same s
/-- the pool has been drawn from -/
theorem Inn.drawn (I : Inn C H0 H pl L p o w ts ps dxp lp dxo lo r r2) (s : SB pl H H') (hp : PoolAt H' pl) : Inn C H0 H' pl L p o w ts ps dxp lp dxo lo r r2 := by
  have hx : ∀ l, H pl ≠ some (.tup l) := fun l e => by
    obtain ⟨x, y, h⟩ := I.pool
    rw [h] at e; cases e
  exact {
    same := s.base I.same I.n0
    n0 := I.n0
    n1 := I.n1
    n2 := I.n2
    n3 := I.n3
    pool := hp
    puts := ⟨s _ _ I.nL I.puts.1, pts_tups I.puts.2 s hx⟩
    pc := I.pc.sb s I.ppl I.a1
    ot := I.ot.sb s I.opl I.b1
    npo := I.npo
    nL := I.nL
    a1 := I.a1
    a2 := I.a2
    b1 := I.b1
    b2 := I.b2
    mrk := fun q hq => (I.mrk q hq).sb s hx }
/-- one put more is in the list -/
theorem Inn.app (I : Inn C H0 H pl L p o w ts ps dxp lp dxo lo r r2) {t : Addr} {q : Pt} (ht : IsPt H t q) (hm : Mk1 H q.2.2) :
    Inn C H0 (upd H L (.lst (ts.map V.ref ++ [V.ref t]))) pl L p o w (ts ++ [t]) (ps ++ [q]) dxp lp dxo lo r r2 := by
  have s : SB L H (upd H L (.lst (ts.map V.ref ++ [V.ref t]))) := SB.upd
  have hx : ∀ l, H L ≠ some (.tup l) := fun l e => by
    rw [I.puts.1] at e; cases e
  exact {
    same := s.base I.same I.n1
    n0 := I.n0
    n1 := I.n1
    n2 := I.n2
    n3 := I.n3
    pool := let ⟨x, y, h⟩ := I.pool; ⟨x, y, s _ _ I.nL.symm h⟩
    puts := ⟨by rw [upd_same, List.map_append]; rfl, paired_snoc (pts_tups I.puts.2 s hx) (tup_sb s hx ht)⟩
    pc := I.pc.sb s I.pL I.a2
    ot := I.ot.sb s I.oL I.b2
    npo := I.npo
    nL := I.nL
    a1 := I.a1
    a2 := I.a2
    b1 := I.b1
    b2 := I.b2
    mrk := fun x hx' => by
      rcases List.mem_append.mp hx' with h | h
      · exact (I.mrk x h).sb s hx
      · rw [List.mem_singleton.mp h]; exact hm.sb s hx }
/-- the piece has changed -/
theorem Inn.putP (I : Inn C H0 H pl L p o w ts ps dxp lp dxo lo r r2) {l' : Addr} {r' : List En} (s : SB p H H') (n : H l' = none) (h : PieceAt C H' p dxp l' w r') : Inn C H0 H' pl L p o w ts ps dxp l' dxo lo r' r2 := by
  have hx : ∀ l, H p ≠ some (.tup l) := fun l e => by
    rw [I.pc.ins] at e; cases e
  obtain ⟨x, y, hxy⟩ := I.pool
  exact {
    same := s.base I.same I.n2
    n0 := I.n0
    n1 := I.n1
    n2 := I.n2
    n3 := I.n3
    pool := ⟨x, y, s _ _ I.ppl.symm hxy⟩
    puts := ⟨s _ _ I.pL.symm I.puts.1, pts_tups I.puts.2 s hx⟩
    pc := h
    ot := I.ot.sb s I.npo.symm I.lop
    npo := I.npo
    nL := I.nL
    a1 := (ne_of_none hxy n).symm
    a2 := (ne_of_none I.puts.1 n).symm
    b1 := I.b1
    b2 := I.b2
    mrk := fun q hq => (I.mrk q hq).sb s hx }
theorem Inn.putO (I : Inn C H0 H pl L p o w ts ps dxp lp dxo lo r r2) {l' : Addr} {r' : List En} (s : SB o H H') (n : H l' = none) (h : PieceAt C H' o dxo l' w r') : Inn C H0 H' pl L p o w ts ps dxp lp dxo l' r r' := by
  have hx : ∀ l, H o ≠ some (.tup l) := fun l e => by
    rw [I.ot.ins] at e; cases e
  obtain ⟨x, y, hxy⟩ := I.pool
  exact {
    same := s.base I.same I.n3
    n0 := I.n0
    n1 := I.n1
    n2 := I.n2
    n3 := I.n3
    pool := ⟨x, y, s _ _ I.opl.symm hxy⟩
    puts := ⟨s _ _ I.oL.symm I.puts.1, pts_tups I.puts.2 s hx⟩
    pc := I.pc.sb s I.npo I.lpo
    ot := h
    npo := I.npo
    nL := I.nL
    a1 := I.a1
    a2 := I.a2
    b1 := (ne_of_none hxy n).symm
    b2 := (ne_of_none I.puts.1 n).symm
    mrk := fun q hq => (I.mrk q hq).sb s hx }
end
/-! ### rows -/
theorem RowAt.same {H H' : Hp} {L : Addr} {r : List En} (h : RowAt H L r) (s : Same H H') : RowAt H' L r := let ⟨ts, h1, h2⟩ := h; ⟨ts, s _ _ h1, ens_same h2 s⟩
theorem RowAt.sb {H H' : Hp} {x L : Addr} {r : List En} (h : RowAt H L r) (s : SB x H H') (hx : ∀ l, H x ≠ some (.tup l)) (n : L ≠ x) : RowAt H' L r :=
  let ⟨ts, h1, h2⟩ := h; ⟨ts, s _ _ n h1, Paired.mapP h2 fun _ _ e => tup_sb s hx e⟩
/-- list(zip(signs, marks)) -/
theorem zip_row {H' : Hp} {p : Addr} {ts : List Addr} : ∀ {r : List En}, H' p = some (.lst (ts.map V.ref)) → Paired (fun (t : Addr) (q : List V) => H' t = some (.tup q)) ts (zipPs (txt r) (mks r)) → RowAt H' p r := by
  intro r h1 h2
  refine ⟨ts, h1, ?_⟩
  have e : zipPs (txt r) (mks r) = r.map fun e => [V.str ⟨#[e.1]⟩, e.2] := by
    unfold zipPs txt mks
    show ((r.map Prod.fst).zip (r.map Prod.snd)).map _ = _
    rw [List.zip_map', List.map_map]
    rfl
  rw [e] at h2
  clear e h1
  induction r generalizing ts with
  | nil => cases h2; exact .nil
  | cons x r ih =>
    cases h2 with
    | cons a b => exact .cons a (ih b)
theorem paired_take {α β : Type} {F : α → β → Prop} : ∀ (n : Nat) {xs : List α} {ys : List β}, Paired F xs ys → Paired F (xs.take n) (ys.take n)
  | 0, _, _, _ => .nil
  | _ + 1, _, _, .nil => .nil
  | n + 1, _, _, .cons r t => .cons r (paired_take n t)
theorem paired_drop {α β : Type} {F : α → β → Prop} : ∀ (n : Nat) {xs : List α} {ys : List β}, Paired F xs ys → Paired F (xs.drop n) (ys.drop n)
  | 0, _, _, h => h
  | _ + 1, _, _, .nil => .nil
  | n + 1, _, _, .cons _ t => paired_drop n t
theorem row_take {H : Hp} {q : Addr} {ts : List Addr} {r : List En} (n : Nat) (h : Paired (IsEn H) ts r) (hq : H q = some (.lst ((ts.map V.ref).take n))) : RowAt H q (r.take n) :=
  ⟨ts.take n, by rw [hq, List.map_take], paired_take n h⟩
theorem row_drop {H : Hp} {q : Addr} {ts : List Addr} {r : List En} (n : Nat) (h : Paired (IsEn H) ts r) (hq : H q = some (.lst ((ts.map V.ref).drop n))) : RowAt H q (r.drop n) :=
  ⟨ts.drop n, by rw [hq, List.map_drop], paired_drop n h⟩
/-! ### entries that are so -/
theorem mem_put {r : List En} {s : Nat} {xs : List En} {e : En} (h : e ∈ put fe r s xs) : e ∈ r ∨ e ∈ xs ∨ e = fe := by
  obtain ⟨j, hj⟩ := List.mem_iff_getElem?.mp h
  rw [put_get] at hj
  by_cases h1 : j < s
  · rw [if_pos h1] at hj
    cases hr : r[j]? with
    | some x =>
      rw [hr] at hj
      have e1 : x = e := Option.some.inj hj
      subst e1
      exact .inl (List.mem_of_getElem? hr)
    | none =>
      rw [hr] at hj
      exact .inr (.inr (Option.some.inj hj).symm)
  · rw [if_neg h1] at hj
    by_cases h2 : j < s + xs.length
    · rw [if_pos h2] at hj
      exact .inr (.inl (List.mem_of_getElem? hj))
    · rw [if_neg h2] at hj
      exact .inl (List.mem_of_getElem? hj)
theorem mem_fold : ∀ {ps : List (Nat × List En)} {r : List En} {e : En}, e ∈ fold fe r ps → e ∈ r ∨ (∃ q ∈ ps, e ∈ q.2) ∨ e = fe
  | [], _, _, h => .inl h
  | q :: ps, r, e, h => by
    have h' : e ∈ fold fe (put fe r q.1 q.2) ps := h
    rcases mem_fold h' with h | ⟨x, hx, hm⟩ | h
    · rcases mem_put h with h | h | h
      · exact .inl h
      · exact .inr (.inl ⟨q, List.mem_cons_self, h⟩)
      · exact .inr (.inr h)
    · exact .inr (.inl ⟨x, List.mem_cons_of_mem _ hx, hm⟩)
    · exact .inr (.inr h)
/-- the numbers of a put -/
def PtOk (w : Int) (q : Pt) : Prop := ((q.1 : Int) + (q.2.1.length : Int) ≤ w) ∧ q.2.1.length ≤ 10 ∧ ∀ c ∈ q.2.1.cps.toList, c < 1114112
theorem fe_ok {H : Hp} : Ok1 H fe := ⟨by decide, .inl rfl⟩
theorem es_ok {H : Hp} {z : Str} {m : V} (hz : ∀ c ∈ z.cps.toList, c < 1114112) (hm : Mk1 H m) : ∀ e ∈ es z m, Ok1 H e := fun e he => by
  obtain ⟨c, hc, rfl⟩ := List.mem_map.mp he
  exact ⟨hz c hc, hm⟩
theorem fold_ok {H : Hp} {w : Int} {ps : List Pt} (h1 : ∀ q ∈ ps, PtOk w q) (h2 : ∀ q ∈ ps, Mk1 H q.2.2) : ∀ e ∈ fold fe [] (ps.map pz), Ok1 H e := fun e he => by
  rcases mem_fold he with h | ⟨x, hx, hm⟩ | h
  · cases h
  · obtain ⟨q, hq, rfl⟩ := List.mem_map.mp hx
    exact es_ok (h1 q hq).2.2 (h2 q hq) e hm
  · rw [h]; exact fe_ok
theorem fold_len {w : Int} (hw : 0 ≤ w) {ps : List Pt} (h1 : ∀ q ∈ ps, PtOk w q) : ((fold fe [] (ps.map pz)).length : Int) ≤ w := by
  rw [fold_length]
  have := farG_le (ps.map pz) 0 w.toNat (Nat.zero_le _) fun p hp => by
    obtain ⟨q, hq, rfl⟩ := List.mem_map.mp hp
    have h := (h1 q hq).1
    rw [pz_len]
    show q.1 + q.2.1.length ≤ w.toNat
    omega
  show ((farG 0 (ps.map pz) : Nat) : Int) ≤ w
  omega
theorem fold_snocP (ps : List Pt) (q : Pt) : fold fe [] ((ps ++ [q]).map pz) = put fe (fold fe [] (ps.map pz)) q.1 (es q.2.1 q.2.2) := by
  rw [List.map_append]
  exact fold_snoc fe [] (ps.map pz) (pz q)
end K12
set_option Elab.async false
set_option linter.all false
set_option maxRecDepth 100000
set_option maxHeartbeats 8000000
namespace K12
open PySem PySem.Spec PyProof.Rows L2
abbrev lawN : List Str := ["_law_script", "_law_k", "_law_pool_here", "_law_wide", "_law_piece", "_law_other", "_law_puts", "_law_turn", "_law_signs_here", "_law_spot", "_law_who", "_law_ahead", "_law_row", "_law_at", "_law_sign"]
theorem scLaw : FnScope lawN ["_law_script"] (defScope sLaw) := ⟨rfl, rfl, rfl, by decide +kernel, rfl, by decide +kernel, by decide +kernel⟩
def spLaw (K : PySem.W.Frag) : Sp := fun vs H Q _ => ∃ (a : Addr) (ns : List Int), vs = [.ref a] ∧ SqL K H a (ns.map V.int) ∧ ns.length ≤ 63 ∧ ∀ H', Q (.bl true) H'
/-- the callees, each with its promise -/
structure Cal (P : Program) (w : World) (K : PySem.W.Frag) (mg : Str → Option Value) (base : Heap) (x : Str) (k : Nat) (ps : List Str) (sp : Sp) : Prop where
  ex : ∃ (f : Addr) (fd : FuncData), FnOk P w K mg base CX0 k f fd ps sp ∧ mg x = some (.ref f) ∧ PySem.W.keepIn K (.ref f) = true ∧ Binds K fd ps []
section
variable {P : Program} {w : World} {K : PySem.W.Frag} {mg : Str → Option Value} {base : Heap} {C : Addr}
theorem ok_law {f fP fT fO fL fK fD fI fU fS fM fE : Addr} {fd dP dT dO dL dK dD dI dU dS dM dE : FuncData} {us : List Value} (F : FnF K "law" "law" sLaw [] [] f fd) (T : Txt K mg C)
    (GP : FnOk P w K mg base CX0 1 fP dP ["_law_script", "_law_k"] (spPool K)) (gP : mg "_law_pool" = some (.ref fP)) (kP : PySem.W.keepIn K (.ref fP) = true) (bP : Binds K dP ["_law_script", "_law_k"] [])
    (GT : FnOk P w K mg base CX0 1 fT dT ["_law_pool_here", "_law_most"] spTake) (gT : mg "_law_take" = some (.ref fT)) (kT : PySem.W.keepIn K (.ref fT) = true) (bT : Binds K dT ["_law_pool_here", "_law_most"] [])
    (GO : FnOk P w K mg base CX0 2 fO dO ["_law_pool_here", "_law_some"] spOne) (gO : mg "_law_one" = some (.ref fO)) (kO : PySem.W.keepIn K (.ref fO) = true) (bO : Binds K dO ["_law_pool_here", "_law_some"] [])
    (GL : FnOk P w K mg base CX0 2 fL dL ["_law_pool_here", "_law_most"] spLSigns) (gL : mg "_law_signs" = some (.ref fL)) (kL : PySem.W.keepIn K (.ref fL) = true) (bL : Binds K dL ["_law_pool_here", "_law_most"] [])
    (GK : FnOk P w K mg base CX0 3 fK dK ["_law_pool_here"] spKey) (gK : mg "_law_key" = some (.ref fK)) (kK : PySem.W.keepIn K (.ref fK) = true) (bK : Binds K dK ["_law_pool_here"] [])
    (GD : FnOk P w K mg base CX0 1 fD dD ["_law_puts"] spDue) (gD : mg "_law_due" = some (.ref fD)) (kD : PySem.W.keepIn K (.ref fD) = true) (bD : Binds K dD ["_law_puts"] [])
    (M : Mk K C fI) (GI : FnOk P w K mg base CX0 3 fI dI ["self", "size"] (spInit C)) (bI : Binds K dI ["self", "size"] [])
    (mU : Meth K C "put" fU) (GU : FnOk P w K mg base CX0 3 fU dU ["self", "place", "signs", "mark"] (spPut C)) (bU : Binds K dU ["self", "place", "signs", "mark"] us) (vU : Vals [V.non] us) (nU : KBn K dU ["self", "place", "signs", "mark"] 3 ["mark"] (fun us ws => us ++ ws) (fun vs zs => vs ++ zs))
    (mS : Meth K C "signs" fS) (GS : FnOk P w K mg base CX0 1 fS dS ["self"] (spSigns C)) (bS : Binds K dS ["self"] [])
    (mM : Meth K C "marks" fM) (GM : FnOk P w K mg base CX0 1 fM dM ["self"] (spMarks C)) (bM : Binds K dM ["self"] [])
    (GE : FnOk P w K mg base CX0 2 fE dE ["self", "other"] (spEq (REq C))) (hE : PySem.W.findIn K (.ref C) "__eq__" = some (some (.ref fE))) (iE : PySem.W.isFn K (.ref fE) = true) (bE : Binds K dE ["self", "other"] []) :
    FnOk P w K mg base CX0 5 f fd ["_law_script"] (spLaw K) := by
  refine F.ok scLaw (fun vs H Q E h => ?_) (fun cdv A outer st H vs Q E hr h => ?_)
  · obtain ⟨a, ns, rfl, _⟩ := h; rfl
  · obtain ⟨a, ns, rfl, hS, hlen, q⟩ := h
    have hr1 := hr.mono (show 1 ≤ 4 by decide)
    have hr2 := hr.mono (show 2 ≤ 4 by decide)
    have hr3 := hr.mono (show 3 ≤ 4 by decide)
    refine ⟨_, PSs.nox (pss_cons (ps_for PassesOwn.never rfl (pi_range1 (by rfl) T.range (pa_cons (pe_callB (call_max2 rfl) (by rfl) T.max boot_max (pa_cons pe_int (pa_cons (pe_callB (call_min2 rfl) (by rfl) T.min boot_min (pa_cons (pe_callB call_len_seq (by rfl) T.len PySem.boot_len (pa_cons (pv 0) pa_nil)) (pa_cons pe_int pa_nil))) pa_nil))) pa_nil)) (pg_name (i := 1) scLaw.nd rfl (Or.inl rfl))
        (pss_cons (ps_set (i := 2) scLaw.nd rfl (.inl rfl) (pe_call GP hr1 (by rfl) gP kP bP .nil pass0 (pa_cons (pv 0) (pa_cons (pv 1) pa_nil))))
        (pss_cons (ps_set (i := 3) scLaw.nd rfl (.inl rfl) (pe_op op_add pe_int (pe_call GT hr1 (by rfl) gT kT bT .nil pass0 (pa_cons (pv 2) (pa_cons pe_int pa_nil)))))
        (pss_cons (ps_par (i := 4) (j := 5) (by rfl) scLaw.nd rfl rfl (by decide) rfl rfl (pa_cons (pe_make M GI hr (by rfl) T.mgC bI .nil pass0 (pa_cons (pv 3) pa_nil)) (pa_cons (pe_make M GI hr (by rfl) T.mgC bI .nil pass0 (pa_cons (pv 3) pa_nil)) pa_nil)) (by rfl))
        (pss_cons (ps_set (i := 6) scLaw.nd rfl (.inl rfl) (pe_lst pa_nil))
        (pss_one (ps_for PassesOwn.never rfl (pi_range1 (by rfl) T.range (pa_cons (pe_call GT hr1 (by rfl) gT kT bT .nil pass0 (pa_cons (pv 2) (pa_cons pe_int pa_nil))) pa_nil)) (pg_name (i := 7) scLaw.nd rfl (Or.inl rfl))
          (pss_cons (ps_set (i := 8) scLaw.nd rfl (.inl rfl) (pe_call GL hr2 (by rfl) gL kL bL .nil pass0 (pa_cons (pv 2) (pa_cons pe_int pa_nil))))
          (pss_cons (ps_expr (pe_bm PySem.F.plainAttrs_list PySem.F.slot_list_append PySem.F.type_list_append mt_append (pv 6) (pa_cons (pe_tup (pa_cons (pe_call GT hr1 (by rfl) gT kT bT .nil pass0 (pa_cons (pv 2) (pa_cons (pe_op op_add (pe_op op_sub (pv 3) (pe_callB call_len_str (by rfl) T.len PySem.boot_len (pa_cons (pv 8) pa_nil))) pe_int) pa_nil))) (pa_cons (pv 8)
            (pa_cons (pe_call GO hr2 (by rfl) gO kO bO .nil pass0 (pa_cons (pv 2) (pa_cons (pe_lst (pa_cons pe_non (pa_cons (pe_call GK hr3 (by rfl) gK kK bK .nil pass0 (pa_cons (pv 2) pa_nil)) pa_nil))) pa_nil))) pa_nil)))) pa_nil)))
          (pss_cons (ps_asg (pe_ix ix_list (pv 6) (pe_un un_neg pe_int) (fun _ _ => rfl)) (pg_tup rfl (pgs_cons (pg_name (i := 9) scLaw.nd rfl (Or.inl rfl)) (pgs_cons (pg_name (i := 8) scLaw.nd rfl (Or.inl rfl)) (pgs_cons (pg_name (i := 10) scLaw.nd rfl (Or.inl rfl)) pgs_nil)))))
          (pss_cons (ps_set (i := 11) scLaw.nd rfl (.inl rfl) (pe_listZip rfl (pa_cons (pe_meth0 (pv 4) T.cl mS GS hr1 bS .nil pass0) (pa_cons (pe_meth0 (pv 4) T.cl mM GM hr1 bM .nil pass0) pa_nil)) (by rfl) T.list boot_list (by rfl) T.zip))
          (pss_cons (ps_expr (pe_methN (pv 4) T.cl mU GU hr3 nU pass0 (pa_cons (pv 9) (pa_cons (pv 8) pa_nil)) (pk_cons (pv 10) pk_nil)))
          (pss_cons (ps_set (i := 12) scLaw.nd rfl (.inl rfl) (pe_listZip rfl (pa_cons (pe_meth0 (pv 4) T.cl mS GS hr1 bS .nil pass0) (pa_cons (pe_meth0 (pv 4) T.cl mM GM hr1 bM .nil pass0) pa_nil)) (by rfl) T.list boot_list (by rfl) T.zip))
          (pss_cons (ps_expr (pe_methN (pv 4) T.cl mU GU hr3 nU pass0 (pa_cons (pv 9) (pa_cons (pv 8) pa_nil)) (pk_cons (pv 10) pk_nil)))
          (pss_cons (ps_if (PW.pt (pw_or (pt_cmpR (op_neD hr1.units) (pv 12) (pe_listZip rfl (pa_cons (pe_meth0 (pv 4) T.cl mS GS hr1 bS .nil pass0) (pa_cons (pe_meth0 (pv 4) T.cl mM GM hr1 bM .nil pass0) pa_nil)) (by rfl) T.list boot_list (by rfl) T.zip) (nomark _))
            (pw_or1 (pt_cmpR (op_neD hr1.units) (pv 12) (pe_call GD hr1 (by rfl) gD kD bD .nil pass0 (pa_cons (pv 6) pa_nil)) (nomark _))))) (pss_one (ps_ret pe_bl)) pss_nil)
          (pss_cons (ps_if (pt_cmpR (op_neD hr1.units) (pe_slice sl_list (pv 12) po_none (po_some (pe_callB (call_min2 rfl) (by rfl) T.min boot_min (pa_cons (pv 9) (pa_cons (pe_callB call_len_seq (by rfl) T.len PySem.boot_len (pa_cons (pv 11) pa_nil)) pa_nil))))) (pe_slice sl_list (pv 11) po_none (po_some (pv 9))) (nomark _)) (pss_one (ps_ret pe_bl)) pss_nil)
          (pss_cons (ps_if (pt_cmpR (op_neD hr1.units) (pe_slice sl_list (pv 12) (po_some (pe_op op_add (pv 9) (pe_callB call_len_str (by rfl) T.len PySem.boot_len (pa_cons (pv 8) pa_nil)))) po_none) (pe_slice sl_list (pv 11) (po_some (pe_op op_add (pv 9) (pe_callB call_len_str (by rfl) T.len PySem.boot_len (pa_cons (pv 8) pa_nil)))) po_none) (nomark _)) (pss_one (ps_ret pe_bl)) pss_nil)
          (pss_cons (ps_for PassesOwn.never rfl (pi_enumS (by rfl) T.enum (pa_cons (pv 8) pa_nil)) (pg_tup rfl (pgs_cons (pg_name (i := 13) scLaw.nd rfl (Or.inl rfl)) (pgs_cons (pg_name (i := 14) scLaw.nd rfl (Or.inl rfl)) pgs_nil)))
            (pss_one (ps_expr (pe_methN (pv 5) T.cl mU GU hr3 nU pass0 (pa_cons (pe_op op_add (pv 9) (pv 13)) (pa_cons (pv 14) pa_nil)) (pk_cons (pv 10) pk_nil)))))
          (pss_cons (ps_expr (pe_meth (pv 5) T.cl mU GU hr3 bU vU pass0 (pa_cons (pv 9) (pa_cons pe_str pa_nil))))
          (pss_one (ps_if (pt_not (pt_cmpR (op_eqG (rcG_ins GE hE iE bE pass0) hr2) (pv 4) (pv 5) (nomark _))) (pss_one (ps_ret pe_bl)) pss_nil)))))))))))))))))))))
      (pss_one (ps_ret pe_bl))), ?_⟩
    -- for k in range(max(1, min(len(script), 10)))
    refine ⟨_, rfl, a, _, rfl, .inl hS, _, 10, rfl, 1, _, rfl, ?_⟩
    obtain ⟨N, eN, N0, N1⟩ : ∃ N : Int, (if (if (10 : Int) < ((ns.map V.int).length : Int) then (10 : Int) else ((ns.map V.int).length : Int)) > 1 then (if (10 : Int) < ((ns.map V.int).length : Int) then (10 : Int) else ((ns.map V.int).length : Int)) else 1) = N ∧ 0 ≤ N ∧ N ≤ 10 :=
      ⟨_, rfl, by split <;> split <;> omega, by split <;> split <;> omega⟩
    rw [eN]
    refine ⟨N, rfl, by omega, by omega, for_range (lo := 0) (n := N.toNat) (fun _ σ H' => ∃ v1 v2 v3 v4 v5 v6 v7 v8 v9 v10 v11 v12 v13 v14 : Option V, σ = [some (.ref a), v1, v2, v3, v4, v5, v6, v7, v8, v9, v10, v11, v12, v13, v14] ∧ Same H H')
      ⟨none, none, none, none, none, none, none, none, none, none, none, none, none, none, rfl, Same.refl H⟩ ?_ (fun σ H' _ => q H')⟩
    rintro i σ H1 hi ⟨v1, v2, v3, v4, v5, v6, v7, v8, v9, v10, v11, v12, v13, v14, rfl, S1⟩
    -- pool = _law_pool(script, k)
    refine ⟨_, rfl, _, rfl, a, i, ns, (by rw [Int.zero_add]; rfl), by omega, S1.seq hS, by omega, fun H2 pl S2 npl hpl => ?_⟩
    -- wide = 24 + take(pool, 177)
    refine ⟨_, rfl, pl, 177, rfl, hpl, by decide, by decide, fun H3 wv s3 hp3 w0 w1 => ⟨_, _, rfl, rfl, ?_⟩⟩
    obtain ⟨wd, ewd, wd0, wd1⟩ : ∃ wd : Int, 24 + wv = wd ∧ 24 ≤ wd ∧ wd ≤ 200 := ⟨_, rfl, by omega, by omega⟩
    show gName 3 (V.int (24 + wv)) _ _ _
    rw [ewd]
    have T1 : Same H H1 := S1
    have npl0 : H pl = none := S1.free npl
    have T3 : Same H H3 := s3.base (S1.trans S2) npl0
    -- piece, other = Piece(wide), Piece(wide)
    refine ⟨_, rfl, fun p dx np ndx nex => ⟨p, dx, _, rfl, by omega, by omega, upd_same, fun H4 lp s4 nlp pc4 => ⟨rfl, ?_⟩⟩⟩
    have M3 : Same H3 (upd (upd H3 dx (.own p)) p (.ins C dx [])) := same_new (Same.new ndx) np
    have T4 : Same H3 H4 := s4.base M3 np
    refine ⟨_, rfl, fun o dy no ndy ney => ⟨o, dy, _, rfl, by omega, by omega, upd_same, fun H5 lo s5 nlo pc5 => ⟨rfl, _, _, rfl, ?_⟩⟩⟩
    have M4 : Same H4 (upd (upd H4 dy (.own o)) o (.ins C dy [])) := same_new (Same.new ndy) no
    have T5 : Same H4 H5 := s5.base M4 no
    -- puts = []
    refine ⟨Nat.zero_le _, fun L nL => ?_⟩
    have S6 := Same.new (o := .lst []) nL
    have aL : upd H5 L (.lst []) L = some (.lst []) := upd_same
    have I6 : Inn C H (upd H5 L (.lst [])) pl L p o wd [] [] dx lp dy lo [] [] := by
      obtain ⟨x, y, hxy⟩ := hp3
      exact {
        same := T3.trans (T4.trans (T5.trans S6))
        n0 := npl0
        n1 := (T3.trans (T4.trans T5)).free nL
        n2 := T3.free np
        n3 := (T3.trans T4).free no
        pool := ⟨x, y, S6 _ _ (T5 _ _ (T4 _ _ hxy))⟩
        puts := ⟨aL, .nil⟩
        pc := (pc4.same T5).same S6
        ot := pc5.same S6
        npo := ne_of_none pc4.ins no
        nL := (ne_of_none (T5 _ _ (T4 _ _ hxy)) nL).symm
        a1 := (ne_of_none (M3 _ _ hxy) nlp).symm
        a2 := ne_of_none (pc4.same T5).mkl nL
        b1 := (ne_of_none (M4 _ _ (T4 _ _ hxy)) nlo).symm
        b2 := ne_of_none pc5.mkl nL
        mrk := fun q hq => by cases hq }
    generalize upd H5 L (.lst []) = H6 at I6
    -- for turn in range(take(pool, 31))
    refine ⟨_, rfl, pl, 31, rfl, I6.pool, by decide, by decide, fun H7 n s7 hp7 n0 n1 => ⟨n, rfl, by omega, by omega, ?_⟩⟩
    refine for_range (lo := 0) (n := n.toNat) (fun j σ H' => ∃ (v7 v8 v9 v10 v11 v12 v13 v14 : Option V) (ts : List Addr) (ps : List Pt) (lp lo : Addr),
        σ = [some (.ref a), some (.int (0 + (i : Int))), some (.ref pl), some (.int wd), some (.ref p), some (.ref o), some (.ref L), v7, v8, v9, v10, v11, v12, v13, v14] ∧
        Inn C H H' pl L p o wd ts ps dx lp dy lo (fold fe [] (ps.map pz)) (fold fe [] (ps.map pz)) ∧ ps.length ≤ j ∧ ∀ q ∈ ps, PtOk wd q)
      ⟨_, _, _, _, _, _, _, _, [], [], lp, lo, rfl, I6.drawn s7 hp7, Nat.le_refl _, fun q hq => by cases hq⟩ ?_ ?_
    · rintro j σ H8 hj ⟨v7, v8, v9, v10, v11, v12, v13, v14, ts, ps, lp, lo, rfl, I8, lps, hok⟩
      have hrl : ((fold fe [] (ps.map pz)).length : Int) ≤ wd := fold_len (by omega) hok
      generalize er : fold fe [] (ps.map pz) = r at I8 hrl
      -- signs = _law_signs(pool, 10)
      refine ⟨_, rfl, pl, 10, rfl, I8.pool, by decide, by decide, fun H9 z s9 hp9 lz oz => ?_⟩
      have I9 := I8.drawn s9 hp9
      have zl : z.length ≤ sizeLine := line400 (by omega)
      -- puts.append((take(pool, wide - len(signs) + 1), signs, one(pool, [None, key(pool)])))
      refine ⟨_, rfl, .inl ⟨rfl, _, SqL.of I9.puts.1⟩, _, rfl, _, rfl, _, rfl, z, rfl, zl, _, _, rfl, rfl, _, _, rfl, rfl, pl, _, rfl, I9.pool, by omega, by omega, fun H10 sp s10 hp10 p0 p1 => ?_⟩
      obtain ⟨s, rfl⟩ : ∃ s : Nat, sp = (s : Int) := ⟨sp.toNat, by omega⟩
      have hsz : (s : Int) + (z.length : Int) ≤ wd := by omega
      have I10 := I9.drawn s10 hp10
      refine ⟨_, rfl, _, rfl, _, rfl, pl, rfl, I10.pool, fun H11 kt kz kn s11 hp11 nkt hkt okz => ?_⟩
      have I11 := I10.drawn s11 hp11
      refine ⟨(by show 2 ≤ sizeLine; decide), fun lq nlq => ?_⟩
      have S12 := Same.new (o := .lst [V.non, V.ref kt]) nlq
      have I12 := I11.grow S12
      have alq : upd H11 lq (.lst [V.non, V.ref kt]) lq = some (.lst [V.non, V.ref kt]) := upd_same
      have hkt12 := S12 _ _ hkt
      have nlqpl : lq ≠ pl := by
        obtain ⟨x, y, h⟩ := I11.pool
        exact (ne_of_none h nlq).symm
      generalize upd H11 lq (.lst [V.non, V.ref kt]) = H12 at S12 I12 alq hkt12
      refine ⟨pl, lq, _, rfl, I12.pool, alq, nlqpl, (by show 1 ≤ 2; decide), (by show 2 ≤ 1000; decide), fun H13 who s13 hp13 hwho => ?_⟩
      have I13 := I12.drawn s13 hp13
      have hmk : Mk1 H13 who := by
        have hx : ∀ l, H12 pl ≠ some (.tup l) := fun l e => by
          obtain ⟨x, y, h⟩ := I12.pool
          rw [h] at e; cases e
        rcases List.mem_cons.mp hwho with e | h
        · exact .inl e
        · exact .inr ⟨kt, kz, kn, List.mem_singleton.mp h, tup_sb s13 hx hkt12, okz⟩
      refine ⟨(by show 3 ≤ sizeLine; decide), fun tp ntp => ?_⟩
      have S14 := Same.new (o := .tup [V.int (s : Int), V.str z, who]) ntp
      have I14 := I13.grow S14
      have atp : upd H13 tp (.tup [V.int (s : Int), V.str z, who]) tp = some (.tup [V.int (s : Int), V.str z, who]) := upd_same
      have hmk14 := hmk.same S14
      generalize upd H13 tp (.tup [V.int (s : Int), V.str z, who]) = H14 at S14 I14 atp hmk14
      have lts : ts.length = ps.length := Paired.length I14.puts.2
      refine ⟨L, _, _, rfl, rfl, I14.puts.1, ?_, ?_⟩
      · rw [List.length_map, lts]
        exact Nat.lt_of_le_of_lt lps (small1000 (by omega))
      have I15 := I14.app (q := (s, z, who)) atp hmk14
      have atp15 : IsPt (upd H14 L (.lst (ts.map V.ref ++ [V.ref tp]))) tp (s, z, who) := tup_sb SB.upd (fun l e => by rw [I14.puts.1] at e; cases e) atp
      generalize upd H14 L (.lst (ts.map V.ref ++ [V.ref tp])) = H15 at I15 atp15
      have hok' : ∀ q ∈ ps ++ [(s, z, who)], PtOk wd q := fun q hq => by
        rcases List.mem_append.mp hq with h | h
        · exact hok q h
        · rw [List.mem_singleton.mp h]
          exact ⟨hsz, (by show z.length ≤ 10; omega), oz⟩
      obtain ⟨r', er'⟩ : ∃ r', r' = put fe r s (es z who) := ⟨_, rfl⟩
      have hfold : fold fe [] ((ps ++ [(s, z, who)]).map pz) = r' := by
        rw [fold_snocP, er, er']
      have hok1 : ∀ {Hx : Hp} {lpx lox : Addr} {rx ry : List En}, Inn C H Hx pl L p o wd (ts ++ [tp]) (ps ++ [(s, z, who)]) dx lpx dy lox rx ry → ∀ e ∈ r', Ok1 Hx e := fun I => by
        rw [← hfold]
        exact fold_ok hok' I.mrk
      have hrl' : (r'.length : Int) ≤ wd := by
        rw [← hfold]
        exact fold_len (by omega) hok'
      have hok0 : ∀ {Hx : Hp} {lpx lox : Addr} {rx ry : List En}, Inn C H Hx pl L p o wd (ts ++ [tp]) (ps ++ [(s, z, who)]) dx lpx dy lox rx ry → ∀ e ∈ r, Ok1 Hx e := fun I => by
        rw [← er]
        exact fold_ok hok fun q hq => I.mrk q (List.mem_append_left _ hq)
      -- spot, signs, who = puts[-1]
      have hat : atI ((ts ++ [tp]).map V.ref) (-1) = some (V.ref tp) := by
        rw [List.map_append]
        exact atI_last _ _
      refine ⟨_, rfl, 1, rfl, L, _, -1, _, rfl, rfl, SqL.of I15.puts.1, hat, tp, _, rfl, SqT.of atp15, rfl, _, _, rfl, _, _, rfl, _, _, rfl, rfl, ?_⟩
      -- ahead = list(zip(piece.signs(), piece.marks()))
      refine ⟨_, rfl, p, dx, _, rfl, I15.pc.ins, pf_no _ _ _ (by decide +kernel) (by decide +kernel) (by decide +kernel), p, dx, _, wd, _, rfl, I15.pc, _, rfl, p, dx, _, rfl, I15.pc.ins, pf_no _ _ _ (by decide +kernel) (by decide +kernel) (by decide +kernel), p, dx, _, wd, _, rfl, I15.pc, fun ml nml => ⟨_, ml, _, rfl, SqL.of upd_same, (by rw [mks_len]; exact txt_len _), fun H17 ah tsa S17 nah na1 na2 hah hpa => ?_⟩⟩
      have I17 := (I15.grow (Same.new (o := .lst (mks r)) nml)).grow S17
      have Ra17 : RowAt H17 ah r := zip_row hah hpa
      have xp : ∀ {Hx : Hp} {lpx lox : Addr} {rx ry : List En}, Inn C H Hx pl L p o wd (ts ++ [tp]) (ps ++ [(s, z, who)]) dx lpx dy lox rx ry → ∀ l, Hx p ≠ some (.tup l) := fun I l e => by
        rw [I.pc.ins] at e; cases e
      have xo : ∀ {Hx : Hp} {lpx lox : Addr} {rx ry : List En}, Inn C H Hx pl L p o wd (ts ++ [tp]) (ps ++ [(s, z, who)]) dx lpx dy lox rx ry → ∀ l, Hx o ≠ some (.tup l) := fun I l e => by
        rw [I.ot.ins] at e; cases e
      have np' : ∀ {Hx : Hp} {lpx lox : Addr} {rx ry rz : List En} {x : Addr}, Inn C H Hx pl L p o wd (ts ++ [tp]) (ps ++ [(s, z, who)]) dx lpx dy lox rx ry → RowAt Hx x rz → x ≠ p := fun I ⟨_, h, _⟩ => ne_of h I.pc.ins (by intro z; cases z)
      -- piece.put(spot, signs, mark=who)
      refine ⟨_, rfl, p, dx, _, rfl, I17.pc.ins, pf_no _ _ _ (by decide +kernel) (by decide +kernel) (by decide +kernel), _, rfl, _, rfl, _, rfl, rfl, rfl, p, dx, _, wd, s, z, who, r, rfl, I17.pc, wd1, hsz, hrl, fun H18 lp2 s18 nlp2 pc18 => ?_⟩
      rw [← er'] at pc18
      have I18 := I17.putP s18 nlp2 pc18
      have Ra18 := Ra17.sb s18 (xp I17) (np' I17 Ra17)
      -- row = list(zip(piece.signs(), piece.marks()))
      refine ⟨_, rfl, p, dx, _, rfl, I18.pc.ins, pf_no _ _ _ (by decide +kernel) (by decide +kernel) (by decide +kernel), p, dx, _, wd, _, rfl, I18.pc, _, rfl, p, dx, _, rfl, I18.pc.ins, pf_no _ _ _ (by decide +kernel) (by decide +kernel) (by decide +kernel), p, dx, _, wd, _, rfl, I18.pc, fun ml nml => ⟨_, ml, _, rfl, SqL.of upd_same, (by rw [mks_len]; exact txt_len _), fun H20 row tsr S20 nrow nr1 nr2 hrow hpr => ?_⟩⟩
      have S20' := (Same.new (o := .lst (mks r')) nml).trans S20
      have I20 := I18.grow S20'
      have Ra20 := Ra18.same S20'
      have Rr20 : RowAt H20 row r' := zip_row hrow hpr
      -- piece.put(spot, signs, mark=who)
      refine ⟨_, rfl, p, dx, _, rfl, I20.pc.ins, pf_no _ _ _ (by decide +kernel) (by decide +kernel) (by decide +kernel), _, rfl, _, rfl, _, rfl, rfl, rfl, p, dx, _, wd, s, z, who, r', rfl, I20.pc, wd1, hsz, hrl', fun H21 lp3 s21 nlp3 pc21 => ?_⟩
      have hpp : put fe r' s (es z who) = r' := by rw [er', put_put]
      rw [hpp] at pc21
      have I21 := I20.putP s21 nlp3 pc21
      have Ra21 := Ra20.sb s21 (xp I20) (np' I20 Ra20)
      have Rr21 := Rr20.sb s21 (xp I20) (np' I20 Rr20)
      -- if row != list(zip(..)) or row != _law_due(puts)
      refine ⟨_, rfl, _, rfl, p, dx, _, rfl, I21.pc.ins, pf_no _ _ _ (by decide +kernel) (by decide +kernel) (by decide +kernel), p, dx, _, wd, _, rfl, I21.pc, _, rfl, p, dx, _, rfl, I21.pc.ins, pf_no _ _ _ (by decide +kernel) (by decide +kernel) (by decide +kernel), p, dx, _, wd, _, rfl, I21.pc, fun ml nml => ⟨_, ml, _, rfl, SqL.of upd_same, (by rw [mks_len]; exact txt_len _), fun H23 zr tsz S23 nzr nz1 nz2 hzr hpz => ?_⟩⟩
      have S23' := (Same.new (o := .lst (mks r')) nml).trans S23
      have I23 := I21.grow S23'
      have Ra23 := Ra21.same S23'
      have Rr23 := Rr21.same S23'
      have Rz23 : RowAt H23 zr r' := zip_row hzr hpz
      obtain ⟨d1, sh1⟩ := row_ok (K := K) Rr23 (hok1 I23)
      obtain ⟨d2, sh2⟩ := row_ok (K := K) Rz23 (hok1 I23)
      refine ⟨_, _, d1, d2, sh1, sh2, ?_⟩
      rw [eqv_same sh1]
      refine ⟨_, rfl, iteF ?_⟩
      refine ⟨_, rfl, _, rfl, L, _, _, rfl, I23.puts, ?_, ?_, fun H24 du S24 ndu Rdu => ?_⟩
      · rw [List.length_append, List.length_singleton]; omega
      · intro q hq
        have := (hok' q hq).1
        omega
      rw [hfold] at Rdu
      have I24 := I23.grow S24
      have Ra24 := Ra23.same S24
      have Rr24 := Rr23.same S24
      obtain ⟨d3, sh3⟩ := row_ok (K := K) Rr24 (hok1 I24)
      obtain ⟨d4, sh4⟩ := row_ok (K := K) Rdu (hok1 I24)
      refine ⟨_, _, d3, d4, sh3, sh4, ?_⟩
      rw [eqv_same sh3]
      refine ⟨_, rfl, iteF ?_⟩
      -- if row[:min(spot, len(ahead))] != ahead[:spot]
      obtain ⟨tsr', hrow24, hpr24⟩ := id Rr24
      obtain ⟨tsa', hah24, hpa24⟩ := id Ra24
      have la : tsa'.length = r.length := Paired.length hpa24
      have emin : (if ((tsa'.map V.ref).length : Int) < (s : Int) then ((tsa'.map V.ref).length : Int) else (s : Int)) = ((min s r.length : Nat) : Int) := by
        rw [List.length_map, la]
        split <;> omega
      refine ⟨_, rfl, _, rfl, _, rfl, ah, _, rfl, .inl (SqL.of hah24), _, _, rfl, ?_⟩
      rw [emin]
      refine ⟨_, rfl, row, _, rfl, SqL.of hrow24, fun q1 nq1 => ?_⟩
      rw [cutV_take]
      have Sq1 := Same.new (o := .lst ((tsr'.map V.ref).take (min s r.length))) nq1
      have aq1 : upd H24 q1 (.lst ((tsr'.map V.ref).take (min s r.length))) q1 = some (.lst ((tsr'.map V.ref).take (min s r.length))) := upd_same
      have I25 := I24.grow Sq1
      generalize upd H24 q1 (.lst ((tsr'.map V.ref).take (min s r.length))) = H25 at Sq1 aq1 I25
      refine ⟨_, rfl, _, rfl, _, rfl, ah, _, rfl, SqL.of (Sq1 _ _ hah24), fun q2 nq2 => ?_⟩
      rw [cutV_take]
      have Sq2 := Same.new (o := .lst ((tsa'.map V.ref).take s)) nq2
      have aq2 : upd H25 q2 (.lst ((tsa'.map V.ref).take s)) q2 = some (.lst ((tsa'.map V.ref).take s)) := upd_same
      have I26 := I25.grow Sq2
      generalize upd H25 q2 (.lst ((tsa'.map V.ref).take s)) = H26 at Sq2 aq2 I26
      have S26 : Same H24 H26 := Sq1.trans Sq2
      have R1 : RowAt H26 q1 (r.take s) := by
        have h := row_take (min s r.length) (ens_same hpr24 S26) (Sq2 _ _ aq1)
        rw [er', put_take] at h
        exact h
      have R2 : RowAt H26 q2 (r.take s) := row_take s (ens_same hpa24 S26) aq2
      obtain ⟨d5, sh5⟩ := row_ok (K := K) R1 fun e he => hok0 I26 e (List.mem_of_mem_take he)
      obtain ⟨d6, sh6⟩ := row_ok (K := K) R2 fun e he => hok0 I26 e (List.mem_of_mem_take he)
      refine ⟨_, _, d5, d6, sh5, sh6, ?_⟩
      rw [eqv_same sh5]
      refine ⟨_, rfl, iteF ?_⟩
      -- if row[spot + len(signs):] != ahead[spot + len(signs):]
      have esz : (s : Int) + (z.length : Int) = ((s + z.length : Nat) : Int) := by omega
      refine ⟨_, rfl, _, rfl, _, rfl, z, rfl, zl, _, _, rfl, rfl, _, rfl, row, _, rfl, SqL.of (S26 _ _ hrow24), fun q3 nq3 => ?_⟩
      rw [esz, cutV_drop]
      have Sq3 := Same.new (o := .lst ((tsr'.map V.ref).drop (s + z.length))) nq3
      have aq3 : upd H26 q3 (.lst ((tsr'.map V.ref).drop (s + z.length))) q3 = some (.lst ((tsr'.map V.ref).drop (s + z.length))) := upd_same
      have I27 := I26.grow Sq3
      generalize upd H26 q3 (.lst ((tsr'.map V.ref).drop (s + z.length))) = H27 at Sq3 aq3 I27
      refine ⟨_, rfl, _, rfl, _, rfl, z, rfl, zl, _, _, rfl, rfl, _, rfl, ah, _, rfl, SqL.of (Sq3 _ _ (S26 _ _ hah24)), fun q4 nq4 => ?_⟩
      rw [esz, cutV_drop]
      have Sq4 := Same.new (o := .lst ((tsa'.map V.ref).drop (s + z.length))) nq4
      have aq4 : upd H27 q4 (.lst ((tsa'.map V.ref).drop (s + z.length))) q4 = some (.lst ((tsa'.map V.ref).drop (s + z.length))) := upd_same
      have I28 := I27.grow Sq4
      generalize upd H27 q4 (.lst ((tsa'.map V.ref).drop (s + z.length))) = H28 at Sq4 aq4 I28
      have S28 : Same H24 H28 := S26.trans (Sq3.trans Sq4)
      have R3 : RowAt H28 q3 (r.drop (s + z.length)) := by
        have h := row_drop (s + z.length) (ens_same hpr24 S28) (Sq4 _ _ aq3)
        have e : r'.drop (s + z.length) = r.drop (s + z.length) := by
          have h := put_drop fe r s (es z who)
          rw [es_len] at h
          rw [er']
          exact h
        rw [e] at h
        exact h
      have R4 : RowAt H28 q4 (r.drop (s + z.length)) := row_drop (s + z.length) (ens_same hpa24 S28) aq4
      obtain ⟨d7, sh7⟩ := row_ok (K := K) R3 fun e he => hok0 I28 e (List.mem_of_mem_drop he)
      obtain ⟨d8, sh8⟩ := row_ok (K := K) R4 fun e he => hok0 I28 e (List.mem_of_mem_drop he)
      refine ⟨_, _, d7, d8, sh7, sh8, ?_⟩
      rw [eqv_same sh7]
      refine ⟨_, rfl, iteF ?_⟩
      -- for at, sign in enumerate(signs): other.put(spot + at, sign, mark=who)
      have hz0 : ∀ y : En, es (⟨#[y.1]⟩ : Str) y.2 = [y] := fun y => rfl
      refine ⟨_, rfl, z, rfl, ?_⟩
      refine for_enumS (x := z) (fun i' σ H' => ∃ (v13 v14 : Option V) (lpx lox : Addr) (r2 : List En),
          σ = [some (.ref a), some (.int (0 + (i : Int))), some (.ref pl), some (.int wd), some (.ref p), some (.ref o), some (.ref L), some (.int (0 + (j : Int))), some (.str z), some (.int (s : Int)), some who, some (.ref ah), some (.ref row), v13, v14] ∧
          Inn C H H' pl L p o wd (ts ++ [tp]) (ps ++ [(s, z, who)]) dx lpx dy lox r' r2 ∧ (r2.length : Int) ≤ wd ∧ put fe r2 s [] = put fe r s ((es z who).take i'))
        ⟨_, _, _, _, r, rfl, I28, hrl, by rw [List.take_zero]⟩ ?_ ?_
      · rintro i' c Tn σ H29 hc ⟨v13, v14, lpx, lox, r2, rfl, I29, hr2, hput⟩ nT
        have hi' : i' < z.length := (Array.getElem?_eq_some_iff.mp hc).1
        have ST := Same.new (o := .tup [V.int (i' : Int), V.str ⟨#[c]⟩]) nT
        have aT : upd H29 Tn (.tup [V.int (i' : Int), V.str ⟨#[c]⟩]) Tn = some (.tup [V.int (i' : Int), V.str ⟨#[c]⟩]) := upd_same
        have I30 := I29.grow ST
        generalize upd H29 Tn (.tup [V.int (i' : Int), V.str ⟨#[c]⟩]) = H30 at ST aT I30
        refine ⟨Tn, _, rfl, SqT.of aT, rfl, _, _, rfl, _, _, rfl, rfl, ?_⟩
        have hb1 : ((s + i' : Nat) : Int) + ((⟨#[c]⟩ : Str).length : Int) ≤ wd := by
          show ((s + i' : Nat) : Int) + ((1 : Nat) : Int) ≤ wd
          omega
        refine ⟨_, rfl, o, dy, _, rfl, I30.ot.ins, pf_no _ _ _ (by decide +kernel) (by decide +kernel) (by decide +kernel), _, rfl, _, rfl, _, _, rfl, rfl, _, rfl, _, rfl, rfl, rfl, o, dy, _, wd, s + i', ⟨#[c]⟩, who, r2, rfl, I30.ot, wd1, hb1, hr2, fun H31 lo2 s31 nlo2 pc31 => ?_⟩
        have I31 := I30.putO s31 nlo2 pc31
        refine ⟨_, _, _, _, _, rfl, I31, ?_, ?_⟩
        · rw [put_length, es_len]
          have : ((⟨#[c]⟩ : Str).length) = 1 := rfl
          omega
        · have hx : (es z who)[i']? = some (c, who) := by
            unfold es
            rw [List.getElem?_map]
            have : z.cps.toList[i']? = some c := by rw [Array.getElem?_toList]; exact hc
            rw [this]; rfl
          have hl : ((es z who).take i').length = i' := by
            rw [List.length_take, es_len]
            omega
          have h := put_step fe r r2 s ((es z who).take i') (c, who) hput
          rw [hl] at h
          rw [List.take_add_one, hx]
          exact h
      · rintro σ H29 ⟨v13, v14, lpx, lox, r2, rfl, I29, hr2, hput⟩
        rw [List.take_of_length_le (by rw [es_len]; exact Nat.le_refl _)] at hput
        -- other.put(spot, "")
        have e0 : es ("" : Str) V.non = [] := by
          have h : ("" : Str) = ⟨#[]⟩ := by decide +kernel
          rw [h]; rfl
        have l0 : ("" : Str).length = 0 := by decide +kernel
        refine ⟨_, rfl, o, dy, _, rfl, I29.ot.ins, pf_no _ _ _ (by decide +kernel) (by decide +kernel) (by decide +kernel), _, rfl, o, dy, _, wd, s, "", .non, r2, rfl, I29.ot, wd1, by rw [l0]; omega, hr2, fun H30 lo2 s30 nlo2 pc30 => ?_⟩
        rw [e0, hput, ← er'] at pc30
        have I30 := I29.putO s30 nlo2 pc30
        -- if not piece == other
        refine ⟨_, rfl, _, rfl, ⟨p, o, _, _, _, _, rfl, rfl, I30.pc.ins, I30.ot.ins, _, _, _, _, _, _, I30.pc, I30.ot, ?_⟩, fun H31 S31 => ⟨true, rfl, iteF ?_⟩⟩
        · intro m hm
          obtain ⟨e, he, rfl⟩ := List.mem_map.mp hm
          exact (hok1 I30 e he).2
        have I31 := I30.grow S31
        have hI := I31
        rw [← hfold] at hI
        exact ⟨_, _, _, _, _, _, _, _, ts ++ [tp], ps ++ [(s, z, who)], _, _, rfl, hI, by rw [List.length_append, List.length_singleton]; omega, hok'⟩
    · rintro σ H' ⟨v7, v8, v9, v10, v11, v12, v13, v14, ts, ps, lp, lo, rfl, I8, _⟩
      exact ⟨_, _, _, _, _, _, _, _, _, _, _, _, _, _, rfl, I8.same⟩
end
end K12
set_option Elab.async false
set_option linter.all false
set_option maxRecDepth 100000
set_option maxHeartbeats 8000000
/-! What the top has written, the head, the end. The facts' rows are printed by gen_end.py. -/
namespace K12
open PySem PySem.Spec PyProof.Rows L2
theorem fund_mk {K : PySem.W.Frag} {x qual : Str} {st : Stmt} {f : Addr} {oc : Value} {od an : Option Addr} {osl : Array (Option Value)} {kV doc pm cdv ct : Value} (l : K.lookup f = some ⟨oc, od, .func (PySem.W.fnOf x qual (defArgs st) (defBody st) (defScope st) .none kV doc pm an cdv ct), osl⟩)
    (c : PySem.W.codeIn K cdv qual = true) (k : PySem.W.keepIn K (.ref f) = true) : FnF K x qual st [] [] f (PySem.W.fnOf x qual (defArgs st) (defBody st) (defScope st) .none kV doc pm an cdv ct) := ⟨⟨oc, od, .none, kV, doc, pm, an, cdv, ct, osl, rfl, l, c, .inl ⟨rfl, rfl⟩, .inl rfl⟩, k⟩
theorem fund_mkD {K : PySem.W.Frag} {x qual : Str} {st : Stmt} {f T : Addr} {oc tc : Value} {od an td : Option Addr} {osl tsl : Array (Option Value)} {tn : Nat} {kV doc pm cdv ct u : Value} {v : V} (l : K.lookup f = some ⟨oc, od, .func (PySem.W.fnOf x qual (defArgs st) (defBody st) (defScope st) (.ref T) kV doc pm an cdv ct), osl⟩)
    (c : PySem.W.codeIn K cdv qual = true) (k : PySem.W.keepIn K (.ref f) = true) (t : K.lookup T = some ⟨tc, td, .seq #[u] tn, tsl⟩) (r : RelV v u) : FnF K x qual st [v] [] f (PySem.W.fnOf x qual (defArgs st) (defBody st) (defScope st) (.ref T) kV doc pm an cdv ct) :=
  ⟨⟨oc, od, .ref T, kV, doc, pm, an, cdv, ct, osl, rfl, l, c, .inr ⟨by simp, T, _, [u], tn, rfl, t, rfl, .cons r .nil⟩, .inl rfl⟩, k⟩
theorem fund_mkK {K : PySem.W.Frag} {x qual m : Str} {st : Stmt} {f D : Addr} {oc : Value} {od an : Option Addr} {osl : Array (Option Value)} {doc pm cdv ct u : Value} {v : V} (l : K.lookup f = some ⟨oc, od, .func (PySem.W.fnOf x qual (defArgs st) (defBody st) (defScope st) .none (.ref D) doc pm an cdv ct), osl⟩)
    (c : PySem.W.codeIn K cdv qual = true) (k : PySem.W.keepIn K (.ref f) = true) (d : PySem.W.nsIn K D m = some (some u)) (r : RelV v u) : FnF K x qual st [] [(m, v)] f (PySem.W.fnOf x qual (defArgs st) (defBody st) (defScope st) .none (.ref D) doc pm an cdv ct) :=
  ⟨⟨oc, od, .none, .ref D, doc, pm, an, cdv, ct, osl, rfl, l, c, .inl ⟨rfl, rfl⟩, .inr ⟨D, rfl, fun q hq => by rw [List.mem_singleton.mp hq]; exact ⟨u, d, r⟩⟩⟩, k⟩
theorem all_mk {l : PySem.W.OpenLaw} {w : World} {K : PySem.W.Frag} {h : Heap} {mg : Str → Option Value} {fa C f1 f2 f3 f4 f5 f6 f7 f8 f9 f10 f11 f12 f13 f14 f15 T2 T3 D4 : Addr} (X : K.In h) (G : h.Ns mainGlobals mg) (hfa : mg "law" = some (.ref fa))
    {od1 an1 od2 an2 od3 an3 od4 an4 od5 an5 od6 an6 od7 an7 od8 an8 od9 an9 od10 an10 od11 an11 od12 an12 od13 an13 od14 an14 od15 an15 td2 td3 : Option Addr} {sl1 sl2 sl3 sl4 sl5 sl6 sl7 sl8 sl9 sl10 sl11 sl12 sl13 sl14 sl15 ts2 ts3 : Array (Option Value)} {oc1 dc1 pm1 cd1 ct1 kV1 oc2 dc2 pm2 cd2 ct2 kV2 oc3 dc3 pm3 cd3 ct3 kV3 oc4 dc4 pm4 cd4 ct4 oc5 dc5 pm5 cd5 ct5 kV5 oc6 dc6 pm6 cd6 ct6 kV6 oc7 dc7 pm7 cd7 ct7 kV7 oc8 dc8 pm8 cd8 ct8 kV8 oc9 dc9 pm9 cd9 ct9 kV9 oc10 dc10 pm10 cd10 ct10 kV10 oc11 dc11 pm11 cd11 ct11 kV11 oc12 dc12 pm12 cd12 ct12 kV12 oc13 dc13 pm13 cd13 ct13 kV13 oc14 dc14 pm14 cd14 ct14 kV14 oc15 dc15 pm15 cd15 ct15 kV15 tc2 tc3 : Value} {tn2 tn3 : Nat} {t3 u1 u2 u3 : Tok}
    (aC : PySem.W.nsIn K mainGlobals "Piece" = some (some (.ref C)))
    (a1 : PySem.W.nsIn K mainGlobals "is_whole" = some (some (.ref f1)))
    (l1 : K.lookup f1 = some ⟨oc1, od1, .func (PySem.W.fnOf "is_whole" "is_whole" (defArgs sWhole) (defBody sWhole) (defScope sWhole) .none kV1 dc1 pm1 an1 cd1 ct1), sl1⟩)
    (c1 : PySem.W.codeIn K cd1 "is_whole" = true)
    (k1 : PySem.W.keepIn K (.ref f1) = true)
    (a2 : PySem.W.nsIn K mainGlobals "is_from" = some (some (.ref f2)))
    (l2 : K.lookup f2 = some ⟨oc2, od2, .func (PySem.W.fnOf "is_from" "is_from" (defArgs sFrom) (defBody sFrom) (defScope sFrom) (.ref T2) kV2 dc2 pm2 an2 cd2 ct2), sl2⟩)
    (c2 : PySem.W.codeIn K cd2 "is_from" = true)
    (k2 : PySem.W.keepIn K (.ref f2) = true)
    (t2 : K.lookup T2 = some ⟨tc2, td2, .seq #[.none] tn2, ts2⟩)
    (a3 : PySem.W.findIn K (.ref C) "__init__" = some (some (.ref f3)))
    (i3 : PySem.W.isFn K (.ref f3) = true)
    (l3 : K.lookup f3 = some ⟨oc3, od3, .func (PySem.W.fnOf "__init__" "Piece.__init__" (defArgs sInit) (defBody sInit) (defScope sInit) (.ref T3) kV3 dc3 pm3 an3 cd3 ct3), sl3⟩)
    (c3 : PySem.W.codeIn K cd3 "Piece.__init__" = true)
    (k3 : PySem.W.keepIn K (.ref f3) = true)
    (t3 : K.lookup T3 = some ⟨tc3, td3, .seq #[.int 60 t3] tn3, ts3⟩)
    (a4 : PySem.W.findIn K (.ref C) "put" = some (some (.ref f4)))
    (i4 : PySem.W.isFn K (.ref f4) = true)
    (l4 : K.lookup f4 = some ⟨oc4, od4, .func (PySem.W.fnOf "put" "Piece.put" (defArgs sPut) (defBody sPut) (defScope sPut) .none (.ref D4) dc4 pm4 an4 cd4 ct4), sl4⟩)
    (c4 : PySem.W.codeIn K cd4 "Piece.put" = true)
    (k4 : PySem.W.keepIn K (.ref f4) = true)
    (d4 : PySem.W.nsIn K D4 "mark" = some (some .none))
    (a5 : PySem.W.findIn K (.ref C) "signs" = some (some (.ref f5)))
    (i5 : PySem.W.isFn K (.ref f5) = true)
    (l5 : K.lookup f5 = some ⟨oc5, od5, .func (PySem.W.fnOf "signs" "Piece.signs" (defArgs sSigns) (defBody sSigns) (defScope sSigns) .none kV5 dc5 pm5 an5 cd5 ct5), sl5⟩)
    (c5 : PySem.W.codeIn K cd5 "Piece.signs" = true)
    (k5 : PySem.W.keepIn K (.ref f5) = true)
    (a6 : PySem.W.findIn K (.ref C) "marks" = some (some (.ref f6)))
    (i6 : PySem.W.isFn K (.ref f6) = true)
    (l6 : K.lookup f6 = some ⟨oc6, od6, .func (PySem.W.fnOf "marks" "Piece.marks" (defArgs sMarks) (defBody sMarks) (defScope sMarks) .none kV6 dc6 pm6 an6 cd6 ct6), sl6⟩)
    (c6 : PySem.W.codeIn K cd6 "Piece.marks" = true)
    (k6 : PySem.W.keepIn K (.ref f6) = true)
    (a7 : PySem.W.findIn K (.ref C) "size" = some (some (.ref f7)))
    (i7 : PySem.W.isFn K (.ref f7) = true)
    (l7 : K.lookup f7 = some ⟨oc7, od7, .func (PySem.W.fnOf "size" "Piece.size" (defArgs sSize) (defBody sSize) (defScope sSize) .none kV7 dc7 pm7 an7 cd7 ct7), sl7⟩)
    (c7 : PySem.W.codeIn K cd7 "Piece.size" = true)
    (k7 : PySem.W.keepIn K (.ref f7) = true)
    (a8 : PySem.W.findIn K (.ref C) "__eq__" = some (some (.ref f8)))
    (i8 : PySem.W.isFn K (.ref f8) = true)
    (l8 : K.lookup f8 = some ⟨oc8, od8, .func (PySem.W.fnOf "__eq__" "Piece.__eq__" (defArgs sEq) (defBody sEq) (defScope sEq) .none kV8 dc8 pm8 an8 cd8 ct8), sl8⟩)
    (c8 : PySem.W.codeIn K cd8 "Piece.__eq__" = true)
    (k8 : PySem.W.keepIn K (.ref f8) = true)
    (a9 : PySem.W.nsIn K mainGlobals "_law_pool" = some (some (.ref f9)))
    (l9 : K.lookup f9 = some ⟨oc9, od9, .func (PySem.W.fnOf "_law_pool" "_law_pool" (defArgs sPool) (defBody sPool) (defScope sPool) .none kV9 dc9 pm9 an9 cd9 ct9), sl9⟩)
    (c9 : PySem.W.codeIn K cd9 "_law_pool" = true)
    (k9 : PySem.W.keepIn K (.ref f9) = true)
    (a10 : PySem.W.nsIn K mainGlobals "_law_take" = some (some (.ref f10)))
    (l10 : K.lookup f10 = some ⟨oc10, od10, .func (PySem.W.fnOf "_law_take" "_law_take" (defArgs sTake) (defBody sTake) (defScope sTake) .none kV10 dc10 pm10 an10 cd10 ct10), sl10⟩)
    (c10 : PySem.W.codeIn K cd10 "_law_take" = true)
    (k10 : PySem.W.keepIn K (.ref f10) = true)
    (a11 : PySem.W.nsIn K mainGlobals "_law_one" = some (some (.ref f11)))
    (l11 : K.lookup f11 = some ⟨oc11, od11, .func (PySem.W.fnOf "_law_one" "_law_one" (defArgs sOne) (defBody sOne) (defScope sOne) .none kV11 dc11 pm11 an11 cd11 ct11), sl11⟩)
    (c11 : PySem.W.codeIn K cd11 "_law_one" = true)
    (k11 : PySem.W.keepIn K (.ref f11) = true)
    (a12 : PySem.W.nsIn K mainGlobals "_law_signs" = some (some (.ref f12)))
    (l12 : K.lookup f12 = some ⟨oc12, od12, .func (PySem.W.fnOf "_law_signs" "_law_signs" (defArgs sLSigns) (defBody sLSigns) (defScope sLSigns) .none kV12 dc12 pm12 an12 cd12 ct12), sl12⟩)
    (c12 : PySem.W.codeIn K cd12 "_law_signs" = true)
    (k12 : PySem.W.keepIn K (.ref f12) = true)
    (a13 : PySem.W.nsIn K mainGlobals "_law_key" = some (some (.ref f13)))
    (l13 : K.lookup f13 = some ⟨oc13, od13, .func (PySem.W.fnOf "_law_key" "_law_key" (defArgs sKey) (defBody sKey) (defScope sKey) .none kV13 dc13 pm13 an13 cd13 ct13), sl13⟩)
    (c13 : PySem.W.codeIn K cd13 "_law_key" = true)
    (k13 : PySem.W.keepIn K (.ref f13) = true)
    (a14 : PySem.W.nsIn K mainGlobals "_law_due" = some (some (.ref f14)))
    (l14 : K.lookup f14 = some ⟨oc14, od14, .func (PySem.W.fnOf "_law_due" "_law_due" (defArgs sDue) (defBody sDue) (defScope sDue) .none kV14 dc14 pm14 an14 cd14 ct14), sl14⟩)
    (c14 : PySem.W.codeIn K cd14 "_law_due" = true)
    (k14 : PySem.W.keepIn K (.ref f14) = true)
    (a15 : PySem.W.nsIn K mainGlobals "law" = some (some (.ref f15)))
    (l15 : K.lookup f15 = some ⟨oc15, od15, .func (PySem.W.fnOf "law" "law" (defArgs sLaw) (defBody sLaw) (defScope sLaw) .none kV15 dc15 pm15 an15 cd15 ct15), sl15⟩)
    (c15 : PySem.W.codeIn K cd15 "law" = true)
    (k15 : PySem.W.keepIn K (.ref f15) = true)
    (pg : PySem.W.plainGet K C Str.empty = true)
    (hd : PySem.W.hasDictIn K C = true)
    (po : PySem.W.plainOver K C = true)
    (sa : PySem.W.findIn K (.ref C) "__setattr__" = some (some (.builtin "object.__setattr__")))
    (mk : PySem.W.makesIn K C = true)
    (kc : PySem.W.keepIn K (.ref C) = true)
    (nZ : PySem.W.findIn K (.ref C) "own_size" = some none)
    (nS : PySem.W.findIn K (.ref C) "own_signs" = some none)
    (nM : PySem.W.findIn K (.ref C) "own_marks" = some none)
    (ha : PySem.W.findIn K (.ref C) "__class__" = some (some (.builtin "object.__class__")))
    (hn : PySem.W.specialIn K (.builtin "object.__class__") "__get__" = some (some (.builtin "getset_descriptor.__get__")))
    (htk : PySem.W.takesIn K (.builtin "object.__class__") = some true)
    (hm : PySem.W.mroIn K C (.type "object") = some true)
    (c24 : PySem.W.nsIn K mainGlobals "LEAST_SIZE" = some (some (.int 24 u1)))
    (c200 : PySem.W.nsIn K mainGlobals "MOST_SIZE" = some (some (.int 200 u2)))
    (cF : PySem.W.nsIn K mainGlobals "FILLER" = some (some (.str "~" u3)))
    (z_isinstance : PySem.W.nsIn K mainGlobals "isinstance" = some none)
    (z_int : PySem.W.nsIn K mainGlobals "int" = some none)
    (z_bool : PySem.W.nsIn K mainGlobals "bool" = some none)
    (z_len : PySem.W.nsIn K mainGlobals "len" = some none)
    (z_max : PySem.W.nsIn K mainGlobals "max" = some none)
    (z_min : PySem.W.nsIn K mainGlobals "min" = some none)
    (z_list : PySem.W.nsIn K mainGlobals "list" = some none)
    (z_zip : PySem.W.nsIn K mainGlobals "zip" = some none)
    (z_enumerate : PySem.W.nsIn K mainGlobals "enumerate" = some none)
    (z_range : PySem.W.nsIn K mainGlobals "range" = some none) :
    ∃ fd : FuncData, (∀ (s : Shared) (v : Value), BindsTo s fd ⟨[v], []⟩ [("_law_script", v)]) ∧ ∀ base : Heap, K.In base → base.Ns mainGlobals mg → FnOk l.prog w K mg base CX0 5 fa fd ["_law_script"] (spLaw K) := by
  have e := hfa.symm.trans (PySem.W.mg_of X G a15)
  cases e
  have T : Txt K mg C := ⟨⟨pg, hd, po, sa⟩, nZ, nS, nM, ha, hn, htk, hm, if_pos (beq_self_eq_true _), PySem.W.mg_of X G aC, ⟨_, PySem.W.mg_of X G c24, ⟨_, rfl⟩⟩, ⟨_, PySem.W.mg_of X G c200, ⟨_, rfl⟩⟩, ⟨_, PySem.W.mg_of X G cF, ⟨_, rfl⟩⟩,
    PySem.W.mg_none_of X G z_isinstance, PySem.W.mg_none_of X G z_int, PySem.W.mg_none_of X G z_bool, PySem.W.mg_none_of X G z_len, PySem.W.mg_none_of X G z_max, PySem.W.mg_none_of X G z_min, PySem.W.mg_none_of X G z_list, PySem.W.mg_none_of X G z_zip, PySem.W.mg_none_of X G z_enumerate, PySem.W.mg_none_of X G z_range⟩
  have F1 : FnF K "is_whole" "is_whole" sWhole [] [] _ _ := fund_mk l1 c1 k1
  have F2 : FnF K "is_from" "is_from" sFrom [.non] [] _ _ := fund_mkD (v := .non) l2 c2 k2 t2 rfl
  have F3 : FnF K "__init__" "Piece.__init__" sInit [.int 60] [] _ _ := fund_mkD (v := .int 60) l3 c3 k3 t3 ⟨_, rfl⟩
  have F4 : FnF K "put" "Piece.put" sPut [] [("mark", .non)] _ _ := fund_mkK (v := .non) l4 c4 k4 d4 rfl
  have F5 : FnF K "signs" "Piece.signs" sSigns [] [] _ _ := fund_mk l5 c5 k5
  have F6 : FnF K "marks" "Piece.marks" sMarks [] [] _ _ := fund_mk l6 c6 k6
  have F7 : FnF K "size" "Piece.size" sSize [] [] _ _ := fund_mk l7 c7 k7
  have F8 : FnF K "__eq__" "Piece.__eq__" sEq [] [] _ _ := fund_mk l8 c8 k8
  have F9 : FnF K "_law_pool" "_law_pool" sPool [] [] _ _ := fund_mk l9 c9 k9
  have F10 : FnF K "_law_take" "_law_take" sTake [] [] _ _ := fund_mk l10 c10 k10
  have F11 : FnF K "_law_one" "_law_one" sOne [] [] _ _ := fund_mk l11 c11 k11
  have F12 : FnF K "_law_signs" "_law_signs" sLSigns [] [] _ _ := fund_mk l12 c12 k12
  have F13 : FnF K "_law_key" "_law_key" sKey [] [] _ _ := fund_mk l13 c13 k13
  have F14 : FnF K "_law_due" "_law_due" sDue [] [] _ _ := fund_mk l14 c14 k14
  have F15 : FnF K "law" "law" sLaw [] [] _ _ := fund_mk l15 c15 k15
  have b1 : ∀ {x q : Str} {st : Stmt} {f : Addr} {fd : FuncData} {p : Str}, FnF K x q st [] [] f fd → True := fun _ => trivial
  have g1 := PySem.W.mg_of X G a1
  have g2 := PySem.W.mg_of X G a2
  have g10 := PySem.W.mg_of X G a10
  have g11 := PySem.W.mg_of X G a11
  obtain ⟨us, vU, bU⟩ := binds_put F4
  refine ⟨PySem.W.fnOf "law" "law" (defArgs sLaw) (defBody sLaw) (defScope sLaw) .none kV15 dc15 pm15 an15 cd15 ct15, fun s v => .of_eq rfl, fun base _ _ => ?_⟩
  have GF := ok_from (P := l.prog) (w := w) (base := base) F2 F1 T g1
  exact ok_law F15 T (ok_pool F9 T) (PySem.W.mg_of X G a9) k9 (F9.bindsN fun _ _ _ _ _ _ us hl => match us, hl with | [_, _], _ => rfl)
    (ok_take F10) g10 k10 (F10.bindsN fun _ _ _ _ _ _ us hl => match us, hl with | [_, _], _ => rfl)
    (ok_one F11 F10 g10 T) g11 k11 (F11.bindsN fun _ _ _ _ _ _ us hl => match us, hl with | [_, _], _ => rfl)
    (ok_lsigns F12 F10 g10 T) (PySem.W.mg_of X G a12) k12 (F12.bindsN fun _ _ _ _ _ _ us hl => match us, hl with | [_, _], _ => rfl)
    (ok_key F13 F11 g11 F10 g10 T) (PySem.W.mg_of X G a13) k13 (F13.bindsN fun _ _ _ _ _ _ us hl => match us, hl with | [_], _ => rfl)
    (ok_due F14 T) (PySem.W.mg_of X G a14) k14 (F14.bindsN fun _ _ _ _ _ _ us hl => match us, hl with | [_], _ => rfl)
    ⟨mk, a3, i3, kc⟩ (ok_init F3 T GF (binds_from F2) g2 k2) (binds_init F3)
    ⟨a4, i4, k4⟩ (ok_put F4 T GF (binds_from F2) g2 k2) bU vU (kbinds_put F4)
    ⟨a5, i5, k5⟩ (ok_signs F5 T) (F5.bindsN fun _ _ _ _ _ _ us hl => match us, hl with | [_], _ => rfl)
    ⟨a6, i6, k6⟩ (ok_marks F6 T) (F6.bindsN fun _ _ _ _ _ _ us hl => match us, hl with | [_], _ => rfl)
    (ok_eq F8 T F7 ⟨a7, i7, k7⟩ F5 ⟨a5, i5, k5⟩ F6 ⟨a6, i6, k6⟩) a8 i8 (F8.bindsN fun _ _ _ _ _ _ us hl => match us, hl with | [_, _], _ => rfl)
theorem walk {l : PySem.W.OpenLaw} {q : Program} {loose : List Str} {XP : (Str → Option Value) → Heap → Prop} {YP : World → Heap → Prop} {d : DefRec} {K : Params → PySem.W.Frag} (hn : l.most = some 63) (hdf : d.params.defaults = [])
    (hY : ∀ (w : World) (h : Heap), YP w h → (K w.params).In h)
    (F : ∀ (w : World) (mg : Str → Option Value) (fa : Addr) (h : Heap), (K w.params).In h → h.Ns mainGlobals mg → mg d.name = some (.ref fa) →
      ∃ fd : FuncData, (∀ (s : Shared) (u : Value), BindsTo s fd ⟨[u], []⟩ [("_law_script", u)]) ∧ ∀ base : Heap, (K w.params).In base → base.Ns mainGlobals mg → FnOk l.prog w (K w.params) mg base CX0 5 fa fd ["_law_script"] (spLaw (K w.params))) :
    PySem.W.WalkO q loose XP YP l.row.toRowW d [] (fun f vs => PySem.call f vs) :=
  L2.walk_of (n := 63) (k := 5) (x := "_law_script") (CX := fun _ => CX0) (sp := fun w => spLaw (K w.params)) hn (by decide) hdf ⟨rfl, by decide, by decide⟩ hY F (fun _ _ a ns hl _ hS => ⟨a, ns, rfl, hS, hl, fun _ => rfl⟩) fun _ _ _ _ _ z => z
end K12
set_option Elab.async false
set_option maxRecDepth 100000
open PySem PySem.W PyProof.Rows in
set_option maxRecDepth 100000 in
set_option maxHeartbeats 0 in
theorem PySem.Challenge.cw_appendlease_k12_whole_each_sign_is_the_l_holds : PySem.Challenge.rw_appendlease_k12_whole_each_sign_is_the_l.Holds := by
  w_on; o_law; k_head; (case hw => w_witness2)
  k_fill
  refine K12.walk (l := PySem.Challenge.rw_appendlease_k12_whole_each_sign_is_the_l) rfl rfl (fun w h Y => PySem.W.kIn_of Y) ?F
  case F =>
    intro w mg fa h KX G hmg
    refine' K12.all_mk KX G hmg ?aC ?a1 ?l1 ?c1 ?k1 ?a2 ?l2 ?c2 ?k2 ?t2 ?a3 ?i3 ?l3 ?c3 ?k3 ?t3 ?a4 ?i4 ?l4 ?c4 ?k4 ?d4 ?a5 ?i5 ?l5 ?c5 ?k5 ?a6 ?i6 ?l6 ?c6 ?k6 ?a7 ?i7 ?l7 ?c7 ?k7 ?a8 ?i8 ?l8 ?c8 ?k8 ?a9 ?l9 ?c9 ?k9 ?a10 ?l10 ?c10 ?k10 ?a11 ?l11 ?c11 ?k11 ?a12 ?l12 ?c12 ?k12 ?a13 ?l13 ?c13 ?k13 ?a14 ?l14 ?c14 ?k14 ?a15 ?l15 ?c15 ?k15 ?pg ?hd ?po ?sa ?mk ?kc ?nZ ?nS ?nM ?ha ?hn ?htk ?hm ?c24 ?c200 ?cF ?z_isinstance ?z_int ?z_bool ?z_len ?z_max ?z_min ?z_list ?z_zip ?z_enumerate ?z_range
    (case aC => k_is)
    (case a1 => k_is)
    (case l1 => k_is)
    (case c1 => k_is)
    (case k1 => k_is)
    (case a2 => k_is)
    (case l2 => k_is)
    (case c2 => k_is)
    (case k2 => k_is)
    (case t2 => k_is)
    (case a3 => k_is)
    (case i3 => k_is)
    (case l3 => k_is)
    (case c3 => k_is)
    (case k3 => k_is)
    (case t3 => k_is)
    (case a4 => k_is)
    (case i4 => k_is)
    (case l4 => k_is)
    (case c4 => k_is)
    (case k4 => k_is)
    (case d4 => k_is)
    (case a5 => k_is)
    (case i5 => k_is)
    (case l5 => k_is)
    (case c5 => k_is)
    (case k5 => k_is)
    (case a6 => k_is)
    (case i6 => k_is)
    (case l6 => k_is)
    (case c6 => k_is)
    (case k6 => k_is)
    (case a7 => k_is)
    (case i7 => k_is)
    (case l7 => k_is)
    (case c7 => k_is)
    (case k7 => k_is)
    (case a8 => k_is)
    (case i8 => k_is)
    (case l8 => k_is)
    (case c8 => k_is)
    (case k8 => k_is)
    (case a9 => k_is)
    (case l9 => k_is)
    (case c9 => k_is)
    (case k9 => k_is)
    (case a10 => k_is)
    (case l10 => k_is)
    (case c10 => k_is)
    (case k10 => k_is)
    (case a11 => k_is)
    (case l11 => k_is)
    (case c11 => k_is)
    (case k11 => k_is)
    (case a12 => k_is)
    (case l12 => k_is)
    (case c12 => k_is)
    (case k12 => k_is)
    (case a13 => k_is)
    (case l13 => k_is)
    (case c13 => k_is)
    (case k13 => k_is)
    (case a14 => k_is)
    (case l14 => k_is)
    (case c14 => k_is)
    (case k14 => k_is)
    (case a15 => k_is)
    (case l15 => k_is)
    (case c15 => k_is)
    (case k15 => k_is)
    (case pg => k_is)
    (case hd => k_is)
    (case po => k_is)
    (case sa => k_is)
    (case mk => k_is)
    (case kc => k_is)
    (case nZ => k_is)
    (case nS => k_is)
    (case nM => k_is)
    (case ha => k_is)
    (case hn => k_is)
    (case htk => k_is)
    (case hm => k_is)
    (case c24 => k_is)
    (case c200 => k_is)
    (case cF => k_is)
    (case z_isinstance => k_is)
    (case z_int => k_is)
    (case z_bool => k_is)
    (case z_len => k_is)
    (case z_max => k_is)
    (case z_min => k_is)
    (case z_list => k_is)
    (case z_zip => k_is)
    (case z_enumerate => k_is)
    (case z_range => k_is)
