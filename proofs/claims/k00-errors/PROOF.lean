import PyProof.Rows.All
import Wide.All
import OpenK.AllK
import Wide.FinOn
import HandS.EndTab
import HandS.Dict
import PyProof.ReprRoads
import HandS.ForMost
import HandS.ForExc
import HandS.Wide
import HandS.IsInst
import HandS.Flow
import HandS.Style
import HandS.TupAny
import HandS.TupMul
import HandS.Deep
import HandS.Conv
import HandS.TryMany
import HandS.ExcField
import HandS.ExcInit
import HandS.ExcValue
import HandS.Codes
import HandS.Lambda
import HandS.Zip
import KE.GoesEnumKw
import PyProof.ListStr
import PyProof.P3In
import HandS.More
import KE.KExcInit
import HandS.ExcIs
import HandS.HotCalls
import HandS.Star
import HandS.DictComp
import HandS.EndBits
import HandS.Defaults
import PySem.Challenge.RW_timesdear_k00_errors
set_option Elab.async false
set_option linter.all false
set_option maxRecDepth 100000
set_option maxHeartbeats 8000000
namespace MX
open PySem PyProof.Rows
/-! ### what repr shows, whatever dicts are within -/
/-- no dict among them is the table of the modules -/
def DOff (g : Heap) (l : List Addr) : Prop := ∀ a ∈ l, ∀ o es n, g.get? a = some o → o.data = .dict es n → (a == sysModules) = false
theorem DOff.nil {g : Heap} : DOff g [] := fun a h => nomatch h
theorem DOff.app {g : Heap} {l m : List Addr} (x : DOff g l) (y : DOff g m) : DOff g (l ++ m) := fun a h => (List.mem_append.mp h).elim (x a) (y a)
theorem DOff.left {g : Heap} {l m : List Addr} (x : DOff g (l ++ m)) : DOff g l := fun a h => x a (List.mem_append_left _ h)
theorem DOff.right {g : Heap} {l m : List Addr} (x : DOff g (l ++ m)) : DOff g m := fun a h => x a (List.mem_append_right _ h)
theorem DOff.tail {g : Heap} {b : Addr} {l : List Addr} (x : DOff g (b :: l)) : DOff g l := fun a h => x a (List.mem_cons_of_mem _ h)
theorem DOff.put {g : Heap} {b : Addr} {l : List Addr} (x : DOff g l) (k : ∀ o es n, g.get? b = some o → o.data ≠ .dict es n) : DOff g (b :: l) := fun a h => by
  rcases List.mem_cons.mp h with rfl | h
  · exact fun o es n e d => absurd d (k o es n e)
  · exact x a h
theorem DOff.off {g : Heap} {b : Addr} {l : List Addr} (x : DOff g l) (k : (b == sysModules) = false) : DOff g (b :: l) := fun a h => by
  rcases List.mem_cons.mp h with rfl | h
  · exact fun _ _ _ _ _ => k
  · exact x a h
section
variable {P : Program} {w : World} {g : Heap}
mutual
theorem shK : ∀ {u : Value} {p : PyData} {l : List Addr}, Reads g u p l → p.showable = true → DOff g l → p.shown.length ≤ sizeLine → ∃ m, ReadAtMost g p.depth m ∧ ReprK P w m g p.depth u p.shown
  | _, _, _, .none, _, _, _ => ⟨[], fun _ h => (nomatch h), by simp only [PyData.shown]; exact .of_is ReprIs.none _ _ _⟩
  | _, _, _, .bool k, _, _, _ => ⟨[], fun _ h => (nomatch h), by simp only [PyData.shown]; exact .of_is (ReprIs.bool k) _ _ _⟩
  | _, _, _, .int j t, s, _, _ => ⟨[], fun _ h => (nomatch h), by simp only [PyData.shown]; exact .of_is (ReprIs.int t (by simpa [PyData.showable] using s)) _ _ _⟩
  | _, _, _, .str y t, _, _, z => ⟨[], fun _ h => (nomatch h), by simp only [PyData.shown]; exact .of_is (ReprIs.str y t (by simpa only [PyData.shown] using z)) _ _ _⟩
  | _, _, _, .list (a := b) (vs := us) (xs := ps) r1 r2 r3 r4, s, f, z => by
    have z' : (listText (PyData.shownAll ps)).length ≤ sizeLine := by simpa only [PyData.shown] using z
    obtain ⟨m, q, k⟩ := shAll r4 (by simpa [PyData.showable] using s) f.tail fun t ht => Nat.le_trans (listText_mem_le ht) z'
    have r : Reads g (.ref b) (.list ps) _ := .list r1 r2 r3 r4
    have n : b ∉ m := not_mem_of_deeper r (by simp only [PyData.depth]; omega) q
    refine ⟨b :: m, ReadAtMost.cons r (by simp only [PyData.depth]; omega) q, ?_⟩
    simp only [PyData.depth, PyData.shown]
    obtain ⟨us⟩ := us
    cases us with
    | nil =>
      have r5 : ReadsAll g [] ps _ := r4
      cases r5
      simp only [PyData.shownAll, listText_nil]
      exact .listEmpty r1 r2 r3
    | cons u us => exact .list r1 r2 r3 n (by simpa using k.length_eq) fun i y e => k.item i y (by simpa using e)
  | _, _, _, .tuple (a := b) (xs := ps) r1 r2 r3 r4, s, f, z => by
    have z' : (tupleText (PyData.shownAll ps)).length ≤ sizeLine := by simpa only [PyData.shown] using z
    obtain ⟨m, q, k⟩ := shAll r4 (by simpa [PyData.showable] using s) (fun a h => f a (by first | exact h | exact List.mem_cons_of_mem _ h)) fun t ht => Nat.le_trans (tupleText_mem_le ht) z'
    have r : Reads g (.ref b) (.tuple ps) _ := .tuple r1 r2 r3 r4
    have n : b ∉ m := not_mem_of_deeper r (by simp only [PyData.depth]; omega) q
    refine ⟨b :: m, ReadAtMost.cons r (by simp only [PyData.depth]; omega) q, ?_⟩
    simp only [PyData.depth, PyData.shown]
    exact .tuple r1 r2 r3 n k
  | _, _, _, .dict (a := b) (o := o) (es := es) (kvs := ps) (as := l1) (bs := l2) r1 r2 r3 r4 r5, s, f, z => by
    have z' : (dictText (PyData.shownKv ps)).length ≤ sizeLine := by simpa only [PyData.shown] using z
    have f : DOff g (b :: (l1 ++ l2)) := f
    obtain ⟨s1, s2⟩ := PyData.showableKv_split ps (by simpa [PyData.showable] using s)
    obtain ⟨m1, q1, k1⟩ := shAll r4 s1 f.tail.left fun t ht => let ⟨p, hp, hl⟩ := PyData.shownKv_key_le ps t ht; Nat.le_trans hl (Nat.le_trans (dictText_mem_le hp) z')
    obtain ⟨m2, q2, k2⟩ := shAll r5 s2 f.tail.right fun t ht => let ⟨p, hp, hl⟩ := PyData.shownKv_val_le ps t ht; Nat.le_trans hl (Nat.le_trans (dictText_mem_le hp) z')
    have r : Reads g (.ref b) (.dict ps) _ := .dict r1 r2 r3 r4 r5
    have q : ReadAtMost g (PyData.depthKv ps) (m1 ++ m2) := (q1.mono (PyData.depthAll_keys_le ps)).append (q2.mono (PyData.depthAll_vals_le ps))
    have n : b ∉ m1 ++ m2 := not_mem_of_deeper r (by simp only [PyData.depth]; omega) q
    refine ⟨b :: (m1 ++ m2), ReadAtMost.cons r (by simp only [PyData.depth]; omega) q, ?_⟩
    simp only [PyData.depth, PyData.shown, PyData.shownKv_eq]
    have e1 := k1.more_le (as' := m1 ++ m2) (fun _ h => List.mem_append_left _ h) (PyData.depthAll_keys_le ps)
    have e2 := k2.more_le (as' := m1 ++ m2) (fun _ h => List.mem_append_right _ h) (PyData.depthAll_vals_le ps)
    exact .dict r1 r2 r3 (f b (List.mem_cons_self ..) _ _ _ r1 r3) n (.of_two es.toList _ _ e1 e2)
theorem shAll : ∀ {us : List Value} {ps : List PyData} {l : List Addr}, ReadsAll g us ps l → PyData.showableAll ps = true → DOff g l → (∀ t ∈ PyData.shownAll ps, t.length ≤ sizeLine) →
    ∃ m, ReadAtMost g (PyData.depthAll ps) m ∧ ReprAllK P w m g (PyData.depthAll ps) us (PyData.shownAll ps)
  | _, _, _, .nil, _, _, _ => ⟨[], fun _ h => (nomatch h), by simp only [PyData.shownAll]; exact .nil⟩
  | _, _, _, .cons (d := p) (ds := ps) r rs, s, f, z => by
    have s' : p.showable = true ∧ PyData.showableAll ps = true := by simpa [PyData.showableAll] using s
    simp only [PyData.shownAll] at z ⊢
    simp only [PyData.depthAll]
    obtain ⟨m1, q1, k1⟩ := shK r s'.1 f.left (z _ (List.mem_cons_self ..))
    obtain ⟨m2, q2, k2⟩ := shAll rs s'.2 f.right fun t ht => z t (List.mem_cons_of_mem _ ht)
    refine ⟨m1 ++ m2, (q1.mono (Nat.le_max_left _ _)).append (q2.mono (Nat.le_max_right _ _)), .cons ?_ (k2.more_le (fun _ h => List.mem_append_right _ h) (Nat.le_max_right _ _))⟩
    exact (k1.more fun _ h => List.mem_append_left _ h).level_le (Nat.le_max_left _ _)
end
variable {A : Around} {E : Value → Shared → Prop} {s : Shared} {Q : Value → Shared → Prop} {b : Addr} {p : PyData} {l : List Addr}
/-- a list, a tuple or a dict, shown -/
theorem shows (r : Reads g (.ref b) p l) (sh : p.showable = true) (f : DOff g l) (z : p.shown.length ≤ sizeLine) : ∃ T id, ShowsBy P w g b p T id := by
  cases r with
  | @list _ o us n ps _ r1 r2 r3 r4 =>
    have z' : (listText (PyData.shownAll ps)).length ≤ sizeLine := by simpa only [PyData.shown] using z
    obtain ⟨m, q, k⟩ := shAll (P := P) (w := w) r4 (by simpa [PyData.showable] using sh) f.tail fun t ht => Nat.le_trans (listText_mem_le ht) z'
    have n : b ∉ m := not_mem_of_deeper (.list r1 r2 r3 r4) (by simp only [PyData.depth]; omega) q
    refine ⟨"list", "list.__repr__", F.slot_list_repr.toG, F.slot_list_str, F.slot_list_format, fun s k0 => ⟨o, k0 _ _ r1, r2⟩, fun A E s Q hg hu k0 hQ => ?_⟩
    simp only [PyData.depth] at hu
    simp only [PyData.shown] at hQ
    obtain ⟨us⟩ := us
    cases us with
    | nil =>
      have r5 : ReadsAll g [] ps _ := r4
      cases r5
      simp only [PyData.shownAll, listText_nil] at hQ
      exact call_list_repr_empty ⟨o, k0 _ _ r1, r2⟩ (k0 _ _ r1) r3 (hQ s.heap _ _ fun _ _ e => e)
    | cons u us => exact call_list_reprK r1 r2 r3 n (by simpa using k.length_eq) (fun i y e => k.item i y (by simpa using e)) hg (fun c _ => Clear.nil c) hu k0 hQ z'
  | @tuple _ o us n ps _ r1 r2 r3 r4 =>
    have z' : (tupleText (PyData.shownAll ps)).length ≤ sizeLine := by simpa only [PyData.shown] using z
    obtain ⟨m, q, k⟩ := shAll (P := P) (w := w) r4 (by simpa [PyData.showable] using sh) (fun a h => f a (by first | exact h | exact List.mem_cons_of_mem _ h)) fun t ht => Nat.le_trans (tupleText_mem_le ht) z'
    have n : b ∉ m := not_mem_of_deeper (.tuple r1 r2 r3 r4) (by simp only [PyData.depth]; omega) q
    refine ⟨"tuple", "tuple.__repr__", F.slot_tuple_repr, F.slot_tuple_str, F.slot_tuple_format, fun s k0 => ⟨o, k0 _ _ r1, r2⟩, fun A E s Q hg hu k0 hQ => ?_⟩
    simp only [PyData.depth] at hu
    simp only [PyData.shown] at hQ
    exact call_tuple_reprK r1 r2 r3 n k hg (fun c _ => Clear.nil c) hu k0 hQ z'
  | @dict _ o es n ps l1 l2 r1 r2 r3 r4 r5 =>
    have z' : (dictText (PyData.shownKv ps)).length ≤ sizeLine := by simpa only [PyData.shown] using z
    have f : DOff g (b :: (l1 ++ l2)) := f
    obtain ⟨s1, s2⟩ := PyData.showableKv_split ps (by simpa [PyData.showable] using sh)
    obtain ⟨m1, q1, k1⟩ := shAll (P := P) (w := w) r4 s1 f.tail.left fun t ht => let ⟨p, hp, hl⟩ := PyData.shownKv_key_le ps t ht; Nat.le_trans hl (Nat.le_trans (dictText_mem_le hp) z')
    obtain ⟨m2, q2, k2⟩ := shAll (P := P) (w := w) r5 s2 f.tail.right fun t ht => let ⟨p, hp, hl⟩ := PyData.shownKv_val_le ps t ht; Nat.le_trans hl (Nat.le_trans (dictText_mem_le hp) z')
    have q : ReadAtMost g (PyData.depthKv ps) (m1 ++ m2) := (q1.mono (PyData.depthAll_keys_le ps)).append (q2.mono (PyData.depthAll_vals_le ps))
    have n : b ∉ m1 ++ m2 := not_mem_of_deeper (.dict r1 r2 r3 r4 r5) (by simp only [PyData.depth]; omega) q
    refine ⟨"dict", "dict.__repr__", F.slot_dict_repr, F.slot_dict_str, F.slot_dict_format, fun s k0 => ⟨o, k0 _ _ r1, r2⟩, fun A E s Q hg hu k0 hQ => ?_⟩
    simp only [PyData.depth] at hu
    simp only [PyData.shown, PyData.shownKv_eq] at hQ
    have e1 := k1.more_le (as' := m1 ++ m2) (fun _ h => List.mem_append_left _ h) (PyData.depthAll_keys_le ps)
    have e2 := k2.more_le (as' := m1 ++ m2) (fun _ h => List.mem_append_right _ h) (PyData.depthAll_vals_le ps)
    exact call_dict_reprK r1 r2 r3 (f b (List.mem_cons_self ..) _ _ _ r1 r3) n (.of_two es.toList _ _ e1 e2) hg (fun c _ => Clear.nil c) hu k0 hQ (by rw [← PyData.shownKv_eq]; exact z')
theorem repr_any (r : Reads s.heap (.ref b) p l) (sh : p.showable = true) (f : DOff s.heap l) (hg : A.guards = some []) (hu : A.units + (p.depth + 1) < cLine)
    (k : ∀ h' u tk, (∀ b o, s.heap.get? b = some o → h'.get? b = some o) → Q (.str p.shown u) { s with heap := h', toks := tk }) (z : p.shown.length ≤ sizeLine) : wpAny (model P w) A (call (.builtin "repr") [.ref b]) Q E s := by
  obtain ⟨T, id, S⟩ := shows (P := P) (w := w) r sh f z
  exact call_repr_slot (by omega) (S.typeIs s fun _ _ e => e) S.slotRepr (S.call A.in1 E s _ hg (by show A.units + 1 + p.depth < cLine; omega) (fun _ _ e => e) fun h' u tk hk => ⟨_, _, rfl, k h' u tk hk⟩)
end
end MX
set_option maxHeartbeats 4000000
/-! zip of any two lists or tuples, strict or not -/
namespace HZ
open PySem PySem.Spec PyProof.Rows L2
open PySem.Sem (wp)
def SqK (h : Heap) : Bool → Addr → Array Value → Prop
  | false, l, q => h.IsList l q
  | true, l, q => h.IsTuple l q
def ItK (h : Heap) : Bool → Addr → Addr → Nat → Prop
  | false, t, l, i => h.IsListIter t l i
  | true, t, l, i => h.IsTupleIter t l i
theorem ItK.to {h h' : Heap} {k : Bool} {t l : Addr} {i : Nat} (x : ItK h k t l i) (e : ∀ o, h.get? t = some o → h'.get? t = some o) : ItK h' k t l i := by
  cases k
  · exact Heap.IsListIter.at x e
  · exact Heap.IsTupleIter.at x e
theorem SqK.to {h h' : Heap} {k : Bool} {l : Addr} {q : Array Value} (x : SqK h k l q) (e : ∀ o, h.get? l = some o → h'.get? l = some o) : SqK h' k l q := by
  cases k
  · exact Heap.IsList.at x e
  · exact Heap.IsTuple.at x e
theorem ItK.lt {h : Heap} {k : Bool} {t l : Addr} {i : Nat} (x : ItK h k t l i) : t < h.objs.size := by
  cases k
  · obtain ⟨_, e, _⟩ := x
    exact Heap.lt_size e
  · obtain ⟨_, e, _⟩ := x
    exact Heap.lt_size e
theorem ItK.obj {h : Heap} {k : Bool} {t l : Addr} {i : Nat} (x : ItK h k t l i) : ∃ o, h.get? t = some o ∧ ∀ v, o.data ≠ .cell v := by
  cases k
  · obtain ⟨o, e, _, d⟩ := x
    exact ⟨o, e, fun v q => by rw [d] at q; cases q⟩
  · obtain ⟨o, e, _, d⟩ := x
    exact ⟨o, e, fun v q => by rw [d] at q; cases q⟩
section
variable {prog : Program} {w : World} {A : Around} {E : Value → Shared → Prop} {s : Shared}
theorem nx_item {k : Bool} {t l : Addr} {i : Nat} {q : Array Value} {x : Value} {Q : Value → Shared → Prop} (a : ItK s.heap k t l i) (b : SqK s.heap k l q) (c : q[i]? = some x)
    (g : ∀ h', ItK h' k t l (i + 1) → Heap.SameBut t s.heap h' → Q x { s with heap := h' }) : wpAny (model prog w) A (Builtin.SmallTypes.nextOf (.ref t)) Q E s := by
  cases k
  · exact wpAny_nextOf_list_item a b c g
  · exact RZ.nextOf_tuple_item a b c g
theorem nx_end {k : Bool} {t l : Addr} {i : Nat} {q : Array Value} {Q : Value → Shared → Prop} (hd : A.handled = none) (a : ItK s.heap k t l i) (b : SqK s.heap k l q) (c : q[i]? = none)
    (g : ∀ h' e, Heap.ExtBut t s.heap h' → (∃ o, h'.get? e = some o ∧ o.cls = .type "StopIteration") → E (.ref e) { s with heap := h' }) : wpAny (model prog w) A (Builtin.SmallTypes.nextOf (.ref t)) Q E s := by
  cases k
  · exact wpAny_nextOf_list_end hd a b c g
  · exact RZ.nextOf_tuple_end hd a b c g
theorem nxe_item {k : Bool} {t l : Addr} {i : Nat} {q : Array Value} {x : Value} {Q : Option Value → Shared → Prop} (a : ItK s.heap k t l i) (b : SqK s.heap k l q) (c : q[i]? = some x)
    (g : ∀ h', ItK h' k t l (i + 1) → Heap.SameBut t s.heap h' → Q (some x) { s with heap := h' }) : wpAny (model prog w) A (Builtin.SmallTypes.nextOrEnd (.ref t)) Q E s := by
  unfold Builtin.SmallTypes.nextOrEnd
  exact wpAny_bind (wpAny_attempt (nx_item a b c fun h' p r => wpAny_pure (g h' p r)))
theorem nxe_end {k : Bool} {t l : Addr} {i : Nat} {q : Array Value} {Q : Option Value → Shared → Prop} (hd : A.handled = none) (a : ItK s.heap k t l i) (b : SqK s.heap k l q) (c : q[i]? = none)
    (g : ∀ h', Heap.ExtBut t s.heap h' → Q none { s with heap := h' }) : wpAny (model prog w) A (Builtin.SmallTypes.nextOrEnd (.ref t)) Q E s := by
  unfold Builtin.SmallTypes.nextOrEnd
  refine wpAny_bind (wpAny_attempt (nx_end hd a b c fun h' e p r => ?_))
  obtain ⟨o, ho, hc⟩ := r
  exact wpAny_bind (wpAny_isInstance (T := "StopIteration") (b := true) ⟨o, ho, hc⟩ isSubtype_stop (wpAny_pure (g h' p)))
/-- one more drawn, as zip draws -/
def draw (st : Bool) (t : Value) : Sem (Option Value) := do
  if st then Builtin.SmallTypes.nextOrEnd t else return some (← Builtin.SmallTypes.nextOf t)
theorem draw_item {st k : Bool} {t l : Addr} {i : Nat} {q : Array Value} {x : Value} {Q : Option Value → Shared → Prop} (a : ItK s.heap k t l i) (b : SqK s.heap k l q) (c : q[i]? = some x)
    (g : ∀ h', ItK h' k t l (i + 1) → Heap.SameBut t s.heap h' → Q (some x) { s with heap := h' }) : wpAny (model prog w) A (draw st (.ref t)) Q E s := by
  cases st
  · exact wpAny_bind (nx_item a b c fun h' p r => wpAny_pure (g h' p r))
  · exact nxe_item a b c g
abbrev ZO (h : Heap) (z TI TO : Addr) (f : Value) (st : Bool) : Prop :=
  h.get? z = some { cls := .type "zip", dict := none, data := .fields #[f, .bool false, .bool st, .ref TI, .ref TO], slots := #[] }
theorem st_eq (st : Bool) : (Value.bool st == Value.bool true) = st := by cases st <;> rfl
theorem zip_item {z TI TO i1 i2 l1 l2 : Addr} {st ka kb : Bool} {na nb : Nat} {xs ys : Array Value} {x y a b : Value} {Q : Value → Shared → Prop} (D : ZipApart z TI TO i1 i2 l1 l2)
    (gz : ZO s.heap z TI TO .none st) (gI : IsPair s.heap TI (.ref i1) (.ref i2)) (gO : IsPair s.heap TO a b)
    (ha : ItK s.heap ka i1 l1 na) (hb : ItK s.heap kb i2 l2 nb) (qa : SqK s.heap ka l1 xs) (qb : SqK s.heap kb l2 ys) (ex : xs[na]? = some x) (ey : ys[nb]? = some y)
    (fin : ∀ h', ZO h' z TI TO (rawInt s.heap.objs.size) st → IsPair h' TO x y → ItK h' ka i1 l1 (na + 1) → ItK h' kb i2 l2 (nb + 1) → IsPair h' s.heap.objs.size x y → h'.objs.size = s.heap.objs.size + 1 →
      (∀ c o, c ≠ z → c ≠ TO → c ≠ i1 → c ≠ i2 → s.heap.get? c = some o → h'.get? c = some o) → Q (.ref s.heap.objs.size) { s with heap := h' }) :
    wpAny (model prog w) A (Builtin.«zip.__next__» ⟨[.ref z], []⟩) (fun r t => ∃ v, r = .done (.ret v) ∧ Q v t) E s := by
  show wpAny _ _ (field (.ref z) 2 >>= _) _ _ _
  refine wpAny_bind (wpAny_field gz rfl (x := .bool st) rfl ?_)
  show wpAny _ _ (field (.ref z) 3 >>= _) _ _ _
  refine wpAny_bind (wpAny_field gz rfl (x := .ref TI) rfl ?_)
  refine wpAny_bind (wpAny_seqItems gI rfl ?_)
  show wpAny _ _ (Builtin.SmallTypes.ownedTupleIsFree (.ref z) >>= _) _ _ _
  refine wpAny_bind ?_
  unfold Builtin.SmallTypes.ownedTupleIsFree
  refine wpAny_bind (wpAny_field gz rfl (x := .none) rfl (wpAny_pure ?_))
  simp only [if_true]
  refine wpAny_bind (wpAny_rule ?_)
  refine wpAny_bind (wpAny_field gz rfl (x := .ref TO) rfl ?_)
  refine wpAny_bind (wpAny_setField_rec gz (by simp) fun g1 z1 b1 => ?_)
  replace z1 : ZO g1 z TI TO .ellipsis st := z1
  refine wpAny_bind ?_
  simp only [List.zipIdx_cons, List.zipIdx_nil, List.forIn_cons, List.forIn_nil]
  rw [st_eq]
  refine wpAny_bind (wpAny_bind (wpAny_onRaise ?_))
  show wpAny _ _ (draw st (.ref i1)) _ _ _
  refine draw_item (ha.to fun o e => b1.extBut _ o D.i1z e) (qa.to fun o e => b1.extBut _ o D.l1z e) ex fun g2 a2 b2 => ?_
  have O2 : IsPair g2 TO a b := b2.extBut _ _ D.TOi1 (b1.extBut _ _ D.TOz gO)
  refine wpAny_bind (wpAny_seqItems O2 rfl ?_)
  refine wpAny_bind (wpAny_updateSeq_pair O2 fun g3 O3 b3 => ?_)
  replace O3 : IsPair g3 TO x b := O3
  refine wpAny_bind (wpAny_letGo (wpAny_pure ?_))
  refine wpAny_bind (wpAny_bind (wpAny_onRaise ?_))
  show wpAny _ _ (draw st (.ref i2)) _ _ _
  have k3 : ∀ c o, c ≠ z → c ≠ TO → c ≠ i1 → s.heap.get? c = some o → g3.get? c = some o := fun c o c1 c2 c3 e => b3.extBut _ _ c2 (b2.extBut _ _ c3 (b1.extBut _ _ c1 e))
  refine draw_item (hb.to fun o e => k3 _ o D.i2z D.TOi2.symm D.i12.symm e) (qb.to fun o e => k3 _ o D.l2z D.l2TO D.l2i1 e) ey fun g4 a4 b4 => ?_
  have O4 : IsPair g4 TO x b := b4.extBut _ _ D.TOi2 O3
  refine wpAny_bind (wpAny_seqItems O4 rfl ?_)
  refine wpAny_bind (wpAny_updateSeq_pair O4 fun g5 O5 b5 => ?_)
  replace O5 : IsPair g5 TO x y := O5
  refine wpAny_bind (wpAny_letGo (wpAny_pure (wpAny_pure ?_)))
  refine wpAny_bind (wpAny_seqItems O5 rfl ?_)
  refine wpAny_bind (wpAny_newTuple ?_)
  have sz : g5.objs.size = s.heap.objs.size := by rw [b5.1, b4.1, b3.1, b2.1, b1.1]
  have z5 : ZO g5 z TI TO .ellipsis st := b5.extBut _ _ D.TOz.symm (b4.extBut _ _ D.i2z.symm (b3.extBut _ _ D.TOz.symm (b2.extBut _ _ D.i1z.symm z1)))
  have k5 : ∀ c o, c ≠ z → c ≠ TO → c ≠ i1 → c ≠ i2 → s.heap.get? c = some o → g5.get? c = some o := fun c o c1 c2 c3 c4 e => b5.extBut _ _ c2 (b4.extBut _ _ c4 (k3 c o c1 c2 c3 e))
  have A5 : ItK g5 ka i1 l1 (na + 1) := a2.to fun o e => b5.extBut _ o D.TOi1.symm (b4.extBut _ o D.i12 (b3.extBut _ o D.TOi1.symm e))
  have B5 : ItK g5 kb i2 l2 (nb + 1) := a4.to fun o e => b5.extBut _ o D.TOi2.symm e
  have lz : z < g5.objs.size := Heap.lt_size z5
  have lO : TO < g5.objs.size := Heap.lt_size O5
  show wpAny _ _ (Builtin.SmallTypes.ownedTupleHandOut (.ref z) (.ref g5.objs.size) >>= _) _ _ _
  refine wpAny_bind ?_
  unfold Builtin.SmallTypes.ownedTupleHandOut
  have z6 : ZO (g5.push { cls := .type "tuple", data := .seq #[x, y] }) z TI TO .ellipsis st := Heap.get?_push_of_some _ z5
  refine wpAny_bind (wpAny_setField_rec z6 (by simp) fun g7 z7 b7 => ?_)
  replace z7 : ZO g7 z TI TO (rawInt g5.objs.size) st := z7
  refine wpAny_setField_rec z7 (by simp) fun g8 z8 b8 => ?_
  replace z8 : ZO g8 z TI TO (rawInt g5.objs.size) st := z8
  have up : ∀ c o, c ≠ z → g5.get? c = some o → g8.get? c = some o := fun c o c1 e => b8.extBut _ _ c1 (b7.extBut _ _ c1 (Heap.get?_push_of_some _ e))
  have T8 : IsPair g8 g5.objs.size x y := b8.extBut _ _ (Nat.ne_of_gt lz) (b7.extBut _ _ (Nat.ne_of_gt lz) (Heap.get?_push_size _ rfl))
  have s8 : g8.objs.size = g5.objs.size + 1 := by rw [b8.1, b7.1, Heap.size_push]
  rw [sz] at z8 T8 s8
  refine wpAny_pure ⟨_, rfl, ?_⟩
  show Q (.ref g5.objs.size) _
  rw [sz]
  exact fin g8 z8 (up _ _ D.TOz O5) (A5.to fun o e => up _ o D.i1z e) (B5.to fun o e => up _ o D.i2z e) T8 s8 fun c o c1 c2 c3 c4 e => up c o c1 (k5 c o c1 c2 c3 c4 e)
theorem stop_it {α : Type} {Q : α → Shared → Prop} (hd : A.handled = none) (g : ∀ h' e, (∀ c o, s.heap.get? c = some o → h'.get? c = some o) → (∃ o, h'.get? e = some o ∧ o.cls = .type "StopIteration") → E (.ref e) { s with heap := h' }) :
    wpAny (model prog w) A (Builtin.SmallTypes.stopIteration : Sem α) Q E s := by
  unfold Builtin.SmallTypes.stopIteration
  refine wpAny_bind (m := newExc _ _) ?_
  simp only [newExc, newTuple]
  refine wpAny_bind ?_
  refine wpAny_newObj_type ?_ (by size_fits)
  refine wpAny_bind (m := firstArgMember _ _) ?_
  refine wpAny_of_eq (a := Value.none) (by first | rfl | (simp only [firstArgMember]; rfl)) ?_
  refine wpAny_newObj_type ?_ (by size_fits)
  simp only [raiseNew]
  refine wpAny_mono (wpAny_bind (wpAny_handled ?_)) (fun _ _ q => q) fun _ _ q => q
  first | rw [show A.in1.handled = none from hd] | rw [hd]
  show wpAny _ _ (throw _) _ _ _
  exact wpAny_throw (g _ _ (fun c o e => Heap.get?_push_of_some _ (Heap.get?_push_of_some _ e)) ⟨_, Heap.get?_push_size _ rfl, rfl⟩)
theorem zip_end {z TI TO i1 i2 l1 l2 : Addr} {st ka kb : Bool} {na nb : Nat} {xs ys : Array Value} {a b : Value} {Q : Fin → Shared → Prop} (hd : A.handled = none) (D : ZipApart z TI TO i1 i2 l1 l2)
    (gz : ZO s.heap z TI TO .none st) (gI : IsPair s.heap TI (.ref i1) (.ref i2)) (gO : IsPair s.heap TO a b)
    (ha : ItK s.heap ka i1 l1 na) (hb : ItK s.heap kb i2 l2 nb) (qa : SqK s.heap ka l1 xs) (qb : SqK s.heap kb l2 ys) (en : xs[na]? = none ∨ ys[nb]? = none) (es : st = true → xs[na]? = none ∧ ys[nb]? = none)
    (fin : ∀ h' e, (∀ c o, c ≠ z → c ≠ TO → c ≠ i1 → c ≠ i2 → s.heap.get? c = some o → h'.get? c = some o) → (∃ o, h'.get? e = some o ∧ o.cls = .type "StopIteration") → E (.ref e) { s with heap := h' }) :
    wpAny (model prog w) A (Builtin.«zip.__next__» ⟨[.ref z], []⟩) Q E s := by
  show wpAny _ _ (field (.ref z) 2 >>= _) _ _ _
  refine wpAny_bind (wpAny_field gz rfl (x := .bool st) rfl ?_)
  show wpAny _ _ (field (.ref z) 3 >>= _) _ _ _
  refine wpAny_bind (wpAny_field gz rfl (x := .ref TI) rfl ?_)
  refine wpAny_bind (wpAny_seqItems gI rfl ?_)
  show wpAny _ _ (Builtin.SmallTypes.ownedTupleIsFree (.ref z) >>= _) _ _ _
  refine wpAny_bind ?_
  unfold Builtin.SmallTypes.ownedTupleIsFree
  refine wpAny_bind (wpAny_field gz rfl (x := .none) rfl (wpAny_pure ?_))
  simp only [if_true]
  refine wpAny_bind (wpAny_rule ?_)
  refine wpAny_bind (wpAny_field gz rfl (x := .ref TO) rfl ?_)
  refine wpAny_bind (wpAny_setField_rec gz (by simp) fun g1 z1 b1 => ?_)
  replace z1 : ZO g1 z TI TO .ellipsis st := z1
  refine wpAny_bind ?_
  simp only [List.zipIdx_cons, List.zipIdx_nil, List.forIn_cons, List.forIn_nil]
  rw [st_eq]
  refine wpAny_bind (wpAny_bind (wpAny_onRaise ?_))
  show wpAny _ _ (draw st (.ref i1)) _ _ _
  cases st with
  | false =>
    cases hx : xs[na]? with
    | none =>
      refine wpAny_bind (nx_end hd (ha.to fun o e => b1.extBut _ o D.i1z e) (qa.to fun o e => b1.extBut _ o D.l1z e) hx fun g2 e b2 he => ?_)
      obtain ⟨oe, e1, e2⟩ := he
      have z2 : ZO g2 z TI TO .ellipsis false := b2 _ _ D.i1z.symm z1
      have ez : e ≠ z := fun q => by
        subst q
        rw [z2] at e1
        cases e1
        simp at e2
      exact wpAny_setField_rec z2 (by simp) fun g3 _ b3 => fin g3 e (fun c o c1 _ c3 _ q => b3.extBut _ _ c1 (b2 _ _ c3 (b1.extBut _ _ c1 q))) ⟨oe, b3.extBut _ _ ez e1, e2⟩
    | some x =>
      have hy : ys[nb]? = none := by
        rcases en with h | h
        · rw [hx] at h
          cases h
        · exact h
      refine wpAny_bind (nx_item (ha.to fun o e => b1.extBut _ o D.i1z e) (qa.to fun o e => b1.extBut _ o D.l1z e) hx fun g2 a2 b2 => wpAny_pure ?_)
      have O2 : IsPair g2 TO a b := b2.extBut _ _ D.TOi1 (b1.extBut _ _ D.TOz gO)
      refine wpAny_bind (wpAny_seqItems O2 rfl ?_)
      refine wpAny_bind (wpAny_updateSeq_pair O2 fun g3 O3 b3 => ?_)
      refine wpAny_bind (wpAny_letGo (wpAny_pure ?_))
      refine wpAny_bind (wpAny_bind (wpAny_onRaise ?_))
      show wpAny _ _ (Builtin.SmallTypes.nextOf (.ref i2) >>= _) _ _ _
      have k3 : ∀ c o, c ≠ z → c ≠ TO → c ≠ i1 → s.heap.get? c = some o → g3.get? c = some o := fun c o c1 c2 c3 e => b3.extBut _ _ c2 (b2.extBut _ _ c3 (b1.extBut _ _ c1 e))
      refine wpAny_bind (nx_end hd (hb.to fun o e => k3 _ o D.i2z D.TOi2.symm D.i12.symm e) (qb.to fun o e => k3 _ o D.l2z D.l2TO D.l2i1 e) hy fun g4 e b4 he => ?_)
      obtain ⟨oe, e1, e2⟩ := he
      have z4 : ZO g4 z TI TO .ellipsis false := b4 _ _ D.i2z.symm (b3.extBut _ _ D.TOz.symm (b2.extBut _ _ D.i1z.symm z1))
      have ez : e ≠ z := fun q => by
        subst q
        rw [z4] at e1
        cases e1
        simp at e2
      exact wpAny_setField_rec z4 (by simp) fun g5 _ b5 => fin g5 e (fun c o c1 c2 c3 c4 q => b5.extBut _ _ c1 (b4 _ _ c4 (k3 c o c1 c2 c3 q))) ⟨oe, b5.extBut _ _ ez e1, e2⟩
  | true =>
    obtain ⟨hx, hy⟩ := es rfl
    refine nxe_end hd (ha.to fun o e => b1.extBut _ o D.i1z e) (qa.to fun o e => b1.extBut _ o D.l1z e) hx fun g2 b2 => ?_
    have z2 : ZO g2 z TI TO .ellipsis true := b2 _ _ D.i1z.symm z1
    refine wpAny_bind (wpAny_setField_rec z2 (by simp) fun g3 z3 b3 => ?_)
    have k3 : ∀ c o, c ≠ z → c ≠ i1 → s.heap.get? c = some o → g3.get? c = some o := fun c o c1 c3 e => b3.extBut _ _ c1 (b2 _ _ c3 (b1.extBut _ _ c1 e))
    refine wpAny_bind ?_
    show wpAny (model prog w) A (forIn (m := Sem) [(Value.ref i2, 1)] PUnit.unit _ >>= _) _ _ _
    simp only [List.forIn_cons, List.forIn_nil]
    refine wpAny_bind (wpAny_bind (wpAny_bind (nxe_end hd (hb.to fun o e => k3 _ o D.i2z D.i12.symm e) (qb.to fun o e => k3 _ o D.l2z D.l2i1 e) hy fun g4 b4 => ?_)))
    simp only [Option.isSome_none, Bool.false_eq_true, if_false]
    refine wpAny_pure (wpAny_pure (wpAny_bind (wpAny_rule (stop_it hd fun g5 e k e1 => ?_))))
    exact fin g5 e (fun c o c1 _ c3 c4 q => k c o (b4 _ _ c4 (k3 c o c1 c3 q))) e1
end
end HZ
set_option maxHeartbeats 4000000
namespace HZ
open PySem PySem.Spec PyProof.Rows L2
open PySem.Sem (wp)
section
variable {prog : Program} {w : World} {A : Around} {E : Value → Shared → Prop} {s : Shared}
theorem pn_item {z TI TO i1 i2 l1 l2 : Addr} {st ka kb : Bool} {na nb : Nat} {xs ys : Array Value} {x y a b : Value} {Q : Option Value → Shared → Prop} (D : ZipApart z TI TO i1 i2 l1 l2)
    (gz : ZO s.heap z TI TO .none st) (gI : IsPair s.heap TI (.ref i1) (.ref i2)) (gO : IsPair s.heap TO a b)
    (ha : ItK s.heap ka i1 l1 na) (hb : ItK s.heap kb i2 l2 nb) (qa : SqK s.heap ka l1 xs) (qb : SqK s.heap kb l2 ys) (ex : xs[na]? = some x) (ey : ys[nb]? = some y)
    (fin : ∀ h', ZO h' z TI TO (rawInt s.heap.objs.size) st → IsPair h' TO x y → ItK h' ka i1 l1 (na + 1) → ItK h' kb i2 l2 (nb + 1) → IsPair h' s.heap.objs.size x y → h'.objs.size = s.heap.objs.size + 1 →
      (∀ c o, c ≠ z → c ≠ TO → c ≠ i1 → c ≠ i2 → s.heap.get? c = some o → h'.get? c = some o) → Q (some (.ref s.heap.objs.size)) { s with heap := h' }) :
    wpAny (model prog w) A (pyNext (.ref z)) Q E s := by
  have ty : s.TypeIs (.ref z) "zip" := ⟨_, gz, rfl⟩
  unfold pyNext
  exact wpAny_bind (wpAny_attempt (wpAny_callSpecial?_slot (name := Str.ofString "__next__") ty F.slot_zip_next
    (wpAny_call_entry F.slot_zip_next ty F.entry_zip_next (zip_item D gz gI gO ha hb qa qb ex ey fun h' p1 p2 p3 p4 p5 p6 p7 => wpAny_pure (fin h' p1 p2 p3 p4 p5 p6 p7)) (F.args_zip_next_1 _))))
theorem pn_end {z TI TO i1 i2 l1 l2 : Addr} {st ka kb : Bool} {na nb : Nat} {xs ys : Array Value} {a b : Value} {Q : Option Value → Shared → Prop} (hd : A.handled = none) (D : ZipApart z TI TO i1 i2 l1 l2)
    (gz : ZO s.heap z TI TO .none st) (gI : IsPair s.heap TI (.ref i1) (.ref i2)) (gO : IsPair s.heap TO a b)
    (ha : ItK s.heap ka i1 l1 na) (hb : ItK s.heap kb i2 l2 nb) (qa : SqK s.heap ka l1 xs) (qb : SqK s.heap kb l2 ys) (en : xs[na]? = none ∨ ys[nb]? = none) (es : st = true → xs[na]? = none ∧ ys[nb]? = none)
    (fin : ∀ h', (∀ c o, c ≠ z → c ≠ TO → c ≠ i1 → c ≠ i2 → s.heap.get? c = some o → h'.get? c = some o) → Q none { s with heap := h' }) : wpAny (model prog w) A (pyNext (.ref z)) Q E s := by
  have ty : s.TypeIs (.ref z) "zip" := ⟨_, gz, rfl⟩
  unfold pyNext
  refine wpAny_bind (wpAny_attempt (wpAny_callSpecial?_slot (name := Str.ofString "__next__") ty F.slot_zip_next
    (wpAny_call_entry F.slot_zip_next ty F.entry_zip_next (zip_end hd D gz gI gO ha hb qa qb en es fun h' e k he => ?_) (F.args_zip_next_1 _))))
  obtain ⟨o, ho, hc⟩ := he
  exact wpAny_bind (wpAny_isInstance (T := "StopIteration") (b := true) ⟨o, ho, hc⟩ isSubtype_stop (wpAny_pure (fin _ k)))
theorem let_go {elts : List Expr} {kk : Nat} {pos : Pos} {z TI TO T : Addr} {st : Bool} {Q : Unit → Shared → Prop} (gz : ZO s.heap z TI TO (rawInt T) st)
    (fin : ∀ h', ZO h' z TI TO .none st → Heap.SameBut z s.heap h' → Q () { s with heap := h' }) : wpAny (model prog w) A (letOwnedTupleGo (.Tuple elts kk pos) (.ref z) (.ref T)) Q E s := by
  unfold letOwnedTupleGo
  refine wpAny_bind (wpAny_load gz ?_)
  show wpAny _ _ (if (_ && (#[rawInt T, .bool false, .bool st, .ref TI, .ref TO] : Array Value)[0]? == some (rawInt T)) = true then _ else _) Q E s
  rw [if_pos (by simp)]
  refine wpAny_mono (wpAny_bind (wpAny_rule ?_)) (fun _ _ q => q) fun _ _ q => q
  exact wpAny_setField_rec gz (by simp) fun h' p q => fin h' p q
theorem it_self {z TI TO : Addr} {f : Value} {st : Bool} {Q : Value → Shared → Prop} (gz : ZO s.heap z TI TO f st) (q : Q (.ref z) s) : wpAny (model prog w) A (pyIter (.ref z)) Q E s := by
  have ty : s.TypeIs (.ref z) "zip" := ⟨_, gz, rfl⟩
  refine wpAny_pyIter_slot ty F.slot_zip_iter (wpAny_call_entry F.slot_zip_iter ty F.entry_zip_iter ?_ (F.args_zip_iter_1 _))
  exact wpAny_pure ⟨_, rfl, "zip", _, ty, F.slot_zip_next.lookup, q⟩
/-- the iterator's own object -/
def ito (k : Bool) (l : Addr) : Obj := { cls := .type (if k = true then "tuple_iterator" else "list_iterator"), data := .fields #[.ref l, .int 0 0] }
theorem it_new {k : Bool} {l : Addr} {q : Array Value} {Q : Value → Shared → Prop} (a : SqK s.heap k l q) (g : Q (.ref s.heap.objs.size) { s with heap := s.heap.push (ito k l) }) : wpAny (model prog w) A (pyIter (.ref l)) Q E s := by
  cases k
  · exact wpAny_pyIter_list a g
  · exact wpAny_pyIter_tuple a g
theorem SqK.push {h : Heap} {k : Bool} {l : Addr} {q : Array Value} (x : SqK h k l q) (o : Obj) : SqK (h.push o) k l q := x.to fun _ e => Heap.get?_push_of_some _ e
def nh (h : Heap) (ka kb st : Bool) (l1 l2 : Addr) : Heap :=
  ((((h.push (ito ka l1)).push (ito kb l2)).push { cls := .type "tuple", data := .seq #[.ref h.objs.size, .ref (h.push (ito ka l1)).objs.size] }).push { cls := .type "tuple", data := .seq #[.none, .none] }).push
    { cls := .type "zip", data := .fields #[.none, .bool false, .bool st, .ref ((h.push (ito ka l1)).push (ito kb l2)).objs.size, .ref (((h.push (ito ka l1)).push (ito kb l2)).push { cls := .type "tuple", data := .seq #[.ref h.objs.size, .ref (h.push (ito ka l1)).objs.size] }).objs.size] }
def nz (h : Heap) (ka kb : Bool) (l1 l2 : Addr) : Addr :=
  ((((h.push (ito ka l1)).push (ito kb l2)).push { cls := .type "tuple", data := .seq #[.ref h.objs.size, .ref (h.push (ito ka l1)).objs.size] }).push { cls := .type "tuple", data := .seq #[.none, .none] }).objs.size
theorem new_plain (ka kb : Bool) (l1 l2 : Addr) (xs ys : Array Value) :
    Meets (Builtin.«zip.__new__» ⟨[.type "zip", .ref l1, .ref l2], []⟩) (fun _ R s => SqK s.heap ka l1 xs ∧ SqK s.heap kb l2 ys ∧ R (.ok (.ret (.ref (nz s.heap ka kb l1 l2)))) { s with heap := nh s.heap ka kb false l1 l2 }) :=
  .of_wp fun prog w A R s h => by
    obtain ⟨hp, g, d, tk, os⟩ := s
    obtain ⟨q1, q2, h⟩ := h
    have sub := sub_zip
    have p1 : SqK (Shared.heap ⟨hp, g, d, tk, os⟩) ka l1 xs := q1
    have p2 : SqK (Shared.heap ⟨hp.push (ito ka l1), g, d, tk, os⟩) kb l2 ys := q2.push _
    wp_walk using it_new p1, it_new p2
    exact ⟨_, rfl, h⟩
theorem new_strict (ka kb : Bool) (l1 l2 : Addr) (xs ys : Array Value) :
    Meets (Builtin.«zip.__new__» ⟨[.type "zip", .ref l1, .ref l2], [(Str.ofString "strict", .bool true)]⟩) (fun _ R s => SqK s.heap ka l1 xs ∧ SqK s.heap kb l2 ys ∧ R (.ok (.ret (.ref (nz s.heap ka kb l1 l2)))) { s with heap := nh s.heap ka kb true l1 l2 }) :=
  .of_wp fun prog w A R s h => by
    obtain ⟨hp, g, d, tk, os⟩ := s
    obtain ⟨q1, q2, h⟩ := h
    have sub := sub_zip
    have p1 : SqK (Shared.heap ⟨hp, g, d, tk, os⟩) ka l1 xs := q1
    have p2 : SqK (Shared.heap ⟨hp.push (ito ka l1), g, d, tk, os⟩) kb l2 ys := q2.push _
    have n1 : (Str.ofString "strict" != ("strict" : Str)) = false := by decide +kernel
    wp_walk using it_new p1, it_new p2

    exact ⟨_, rfl, h⟩
theorem tc_strict (a b : Value) : checkTypeCall "zip" ⟨[a, b], [(Str.ofString "strict", .bool true)]⟩ = pure () := by kernel_rfl
theorem nc_strict (a b : Value) : checkBuiltinCall "zip.__new__" ⟨[.type "zip", a, b], [(Str.ofString "strict", .bool true)]⟩ = pure () := by kernel_rfl
theorem oi_strict (o a b : Value) : argsOk "object.__init__" ⟨[o, a, b], [(Str.ofString "strict", .bool true)]⟩ := by
  unfold argsOk
  kernel_rfl
/-- what zip leaves -/
def Zn (h h' : Heap) (ka kb st : Bool) (l1 l2 : Addr) : Prop :=
  ZO h' (h.objs.size + 4) (h.objs.size + 2) (h.objs.size + 3) .none st ∧ IsPair h' (h.objs.size + 2) (.ref h.objs.size) (.ref (h.objs.size + 1)) ∧ IsPair h' (h.objs.size + 3) .none .none ∧
    ItK h' ka h.objs.size l1 0 ∧ ItK h' kb (h.objs.size + 1) l2 0 ∧ ∀ c o, h.get? c = some o → h'.get? c = some o
theorem ito_it {h : Heap} {k : Bool} {t l : Addr} (e : h.get? t = some (ito k l)) : ItK h k t l 0 := by
  cases k
  · exact ⟨_, e, rfl, rfl⟩
  · exact ⟨_, e, rfl, rfl⟩
theorem ito_free (k : Bool) (l : Addr) : (ito k l).isFreed = false := by cases k <;> rfl
theorem nh_zn (h : Heap) (ka kb st : Bool) (l1 l2 : Addr) : nz h ka kb l1 l2 = h.objs.size + 4 ∧ Zn h (nh h ka kb st l1 l2) ka kb st l1 l2 := by
  let h1 := h.push (ito ka l1)
  let h2 := h1.push (ito kb l2)
  let h3 := h2.push { cls := .type "tuple", data := .seq #[.ref h.objs.size, .ref h1.objs.size] }
  let h4 := h3.push { cls := .type "tuple", data := .seq #[.none, .none] }
  let h5 := h4.push { cls := .type "zip", data := .fields #[.none, .bool false, .bool st, .ref h2.objs.size, .ref h3.objs.size] }
  have s1 : h1.objs.size = h.objs.size + 1 := Heap.size_push ..
  have s2 : h2.objs.size = h.objs.size + 2 := by rw [Heap.size_push, s1]
  have s3 : h3.objs.size = h.objs.size + 3 := by rw [Heap.size_push, s2]
  have s4 : h4.objs.size = h.objs.size + 4 := by rw [Heap.size_push, s3]
  have u5 : ∀ c o, h4.get? c = some o → h5.get? c = some o := fun c o e => Heap.get?_push_of_some _ e
  have u4 : ∀ c o, h3.get? c = some o → h5.get? c = some o := fun c o e => u5 c o (Heap.get?_push_of_some _ e)
  have u3 : ∀ c o, h2.get? c = some o → h5.get? c = some o := fun c o e => u4 c o (Heap.get?_push_of_some _ e)
  have u2 : ∀ c o, h1.get? c = some o → h5.get? c = some o := fun c o e => u3 c o (Heap.get?_push_of_some _ e)
  have u1 : ∀ c o, h.get? c = some o → h5.get? c = some o := fun c o e => u2 c o (Heap.get?_push_of_some _ e)
  have g5 : h5.get? h4.objs.size = some _ := Heap.get?_push_size _ rfl
  have g4 : h5.get? h3.objs.size = some _ := u5 _ _ (Heap.get?_push_size _ rfl)
  have g3 : h5.get? h2.objs.size = some _ := u4 _ _ (Heap.get?_push_size _ rfl)
  have g2 : h5.get? h1.objs.size = some _ := u3 _ _ (Heap.get?_push_size _ (ito_free kb l2))
  have g1 : h5.get? h.objs.size = some _ := u2 _ _ (Heap.get?_push_size _ (ito_free ka l1))
  refine ⟨s4, ?_⟩
  show Zn h h5 ka kb st l1 l2
  rw [s2, s3, s4] at g5
  rw [s1, s2] at g3
  rw [s3] at g4
  rw [s1] at g2
  exact ⟨g5, g3, g4, ito_it g1, ito_it g2, u1⟩
theorem call_plain {ka kb : Bool} {l1 l2 : Addr} {xs ys : Array Value} {Q : Value → Shared → Prop} (qa : SqK s.heap ka l1 xs) (qb : SqK s.heap kb l2 ys)
    (fin : ∀ h', Zn s.heap h' ka kb false l1 l2 → Q (.ref (s.heap.objs.size + 4)) { s with heap := h' }) : wpAny (model prog w) A (call (.type "zip") [.ref l1, .ref l2]) Q E s := by
  obtain ⟨e, zn⟩ := nh_zn s.heap ka kb false l1 l2
  refine callType_new F.called_zip (by decide) (F.typeCall_zip_2 _ _) (F.newCall_zip_2 _ _) (fun o => F.args_object_init_3 o _ _) F.entry_zip_new (new_plain ka kb l1 l2 xs ys) ⟨qa, qb, ?_⟩
  show _ ∧ _
  rw [e]
  exact ⟨⟨_, zn.1, rfl⟩, fin _ zn⟩
theorem call_strict {ka kb : Bool} {l1 l2 : Addr} {xs ys : Array Value} {Q : Value → Shared → Prop} (qa : SqK s.heap ka l1 xs) (qb : SqK s.heap kb l2 ys)
    (fin : ∀ h', Zn s.heap h' ka kb true l1 l2 → Q (.ref (s.heap.objs.size + 4)) { s with heap := h' }) : wpAny (model prog w) A (call (.type "zip") [.ref l1, .ref l2] [(Str.ofString "strict", .bool true)]) Q E s := by
  obtain ⟨e, zn⟩ := nh_zn s.heap ka kb true l1 l2
  refine callType_newKw F.called_zip (by decide) (tc_strict _ _) (nc_strict _ _) (fun o => oi_strict o _ _) F.entry_zip_new (new_strict ka kb l1 l2 xs ys) ⟨qa, qb, ?_⟩
  show _ ∧ _
  rw [e]
  exact ⟨⟨_, zn.1, rfl⟩, fin _ zn⟩
end
/-- what is walked: by kinds -/
def SqV (K : PySem.W.Frag) (H : Hp) : Bool → Addr → List V → Prop
  | false, a, xs => SqL K H a xs
  | true, a, xs => SqT K H a xs
def Itw (K : PySem.W.Frag) (ka kb st : Bool) (a b : Addr) : It :=
  ⟨fun i H => ∃ (xs ys : List V) (x y : V), SqV K H ka a xs ∧ SqV K H kb b ys ∧ xs[i]? = some x ∧ ys[i]? = some y,
    fun i H v H' => ∃ T x y, v = .ref T ∧ H T = none ∧ H' = upd H T (.tup [x, y]) ∧ (∀ xs, SqV K H ka a xs → xs[i]? = some x) ∧ ∀ ys, SqV K H kb b ys → ys[i]? = some y,
    fun i H => ∃ xs ys : List V, SqV K H ka a xs ∧ SqV K H kb b ys ∧ (xs.length ≤ i ∨ ys.length ≤ i) ∧ (st = true → xs.length ≤ i ∧ ys.length ≤ i)⟩
section
variable {X : Cx} {pins : List (Addr × Obj)} {σ : L2.St} {H : Hp} {s : Shared}
theorem sq_of {k : Bool} {a : Addr} {xs : List V} (I : Inv X pins σ H s) (q : SqV X.K H k a xs) : ∃ its : List Value, Vals xs its ∧ SqK s.heap k a its.toArray ∧ a < s.heap.objs.size := by
  cases k
  · obtain ⟨its, r, p, _⟩ := I.list q
    exact ⟨its, r, p.isList, p.lt⟩
  · obtain ⟨its, r, p, _⟩ := I.tuple q
    exact ⟨its, r, p, by obtain ⟨o, e, _⟩ := id p; exact Heap.lt_size e⟩
theorem sq_inj {k : Bool} {a : Addr} {xs ys : List V} (I : Inv X pins σ H s) (p : SqV X.K H k a xs) (q : SqV X.K H k a ys) : xs = ys := by
  cases k
  · exact I.list_inj p q
  · exact I.tuple_inj p q
end
theorem turn_w {P : Program} {w : World} {K : PySem.W.Frag} {elts : List Expr} {kk : Nat} {tpos : Pos} {a b z TI TO i1 i2 : Addr} {ka kb st : Bool} (D : ZipApart z TI TO i1 i2 a b) :
    Turn P w K (.Tuple elts kk tpos) (Itw K ka kb st a b) [z, TI, TO, i1, i2] z (fun i h => ZO h z TI TO .none st ∧ IsPair h TI (.ref i1) (.ref i2) ∧ (∃ x y, IsPair h TO x y) ∧ ItK h ka i1 a i ∧ ItK h kb i2 b i) where
  mem := by simp
  obj := fun i h t c hc => by
    obtain ⟨gz, gI, ⟨x, y, gO⟩, h1, h2⟩ := t
    have e' : c = z ∨ c = TI ∨ c = TO ∨ c = i1 ∨ c = i2 := by simpa using hc
    rcases e' with rfl | rfl | rfl | rfl | rfl
    · exact ⟨_, gz, fun v q => nomatch q⟩
    · exact ⟨_, gI, fun v q => nomatch q⟩
    · exact ⟨_, gO, fun v q => nomatch q⟩
    · exact h1.obj
    · exact h2.obj
  keep := fun i h h' t k => by
    obtain ⟨gz, gI, ⟨x, y, gO⟩, h1, h2⟩ := t
    exact ⟨k z (by simp) _ gz, k TI (by simp) _ gI, ⟨x, y, k TO (by simp) _ gO⟩, h1.to fun o q => k i1 (by simp) o q, h2.to fun o q => k i2 (by simp) o q⟩
  item := by
    intro X hP hw hK hc i pins s σ H E I hf t hg
    subst hP hw hK
    obtain ⟨gz, gI, ⟨x0, y0, gO⟩, h1, h2⟩ := t
    obtain ⟨xs, ys, x, y, qx, qy, hx, hy⟩ := hg
    obtain ⟨its, r1, p1, _⟩ := sq_of I qx
    obtain ⟨its2, r2, p2, _⟩ := sq_of I qy
    obtain ⟨u, hu, ru⟩ := r1.get hx
    obtain ⟨u2, hu2, ru2⟩ := r2.get hy
    have lz : z < s.heap.objs.size := Heap.lt_size gz
    refine pn_item D gz gI gO h1 h2 p1 p2 (x := u) (y := u2) (by simpa using hu) (by simpa using hu2) fun h' z' O' h1' h2' hT _ k => ?_
    refine ⟨_, rfl, let_go (s := { s with heap := h' }) z' fun h'' z'' sb => ?_⟩
    have hT2 : h''.get? s.heap.objs.size = some { cls := .type "tuple", data := .seq #[u, u2] } := (sb.2 _ (Nat.ne_of_gt lz)).trans hT
    have new : ObjOk X.prog X.w (upd H s.heap.objs.size (.tup [x, y])) h'' s.heap.objs.size (.tup [x, y]) := ⟨(by show 2 ≤ sizeLine; decide), [u, u2], .cons ru (.cons ru2 .nil), ⟨_, hT2, rfl, _, rfl⟩⟩
    have I1 : Inv X pins σ (upd H s.heap.objs.size (.tup [x, y])) { s with heap := h'' } :=
      I.turnedNew (t' := s.toks) (ch := [z, TI, TO, i1, i2]) (fun c o hb q => by
        simp only [List.mem_cons, List.not_mem_nil, or_false, not_or] at hb
        exact (sb.2 c hb.1).trans (k c o hb.1 hb.2.2.1 hb.2.2.2.1 hb.2.2.2.2 q)) hf (Nat.le_refl _) new
    refine ⟨.ref s.heap.objs.size, _, I1, rfl, ⟨_, x, y, rfl, I.hok.fresh (Nat.le_refl _), rfl, fun l hl => by rw [sq_inj I hl qx]; exact hx, fun l hl => by rw [sq_inj I hl qy]; exact hy⟩, ⟨z'', ?_, ⟨u, u2, ?_⟩, ?_, ?_⟩, fun c hm => ?_⟩
    · exact (sb.2 _ D.TIz).trans (k _ _ D.TIz D.TITO D.TIi1 D.TIi2 gI)
    · exact (sb.2 _ D.TOz).trans O'
    · exact h1'.to fun o q => (sb.2 _ D.i1z).trans q
    · exact h2'.to fun o q => (sb.2 _ D.i2z).trans q
    · have lt : c < s.heap.objs.size := by
        have e' : c = z ∨ c = TI ∨ c = TO ∨ c = i1 ∨ c = i2 := by simpa using hm
        rcases e' with rfl | rfl | rfl | rfl | rfl
        · exact lz
        · exact Heap.lt_size gI
        · exact Heap.lt_size gO
        · exact h1.lt
        · exact h2.lt
      rw [upd_ne (Nat.ne_of_lt lt)]
      exact (hf c hm).1
  done := by
    intro X hP hw hK hc i pins s σ H E I hf t hg
    subst hP hw hK
    obtain ⟨gz, gI, ⟨x0, y0, gO⟩, h1, h2⟩ := t
    obtain ⟨xs, ys, qx, qy, en, es⟩ := hg
    obtain ⟨its, r1, p1, _⟩ := sq_of I qx
    obtain ⟨its2, r2, p2, _⟩ := sq_of I qy
    have l1 := r1.length
    have l2 := r2.length
    have he : its.toArray[i]? = none ∨ its2.toArray[i]? = none := by
      rcases en with q | q
      · exact .inl (by simp; omega)
      · exact .inr (by simp; omega)
    refine pn_end (I.ok.hd hc) D gz gI gO h1 h2 p1 p2 he (fun e => ⟨by have := (es e).1; simp; omega, by have := (es e).2; simp; omega⟩) fun h' k => ⟨rfl, I.turnedL (t' := s.toks) (ch := [z, TI, TO, i1, i2]) (fun c o hb q => ?_) hf⟩
    simp only [List.mem_cons, List.not_mem_nil, or_false, not_or] at hb
    exact k c o hb.1 hb.2.2.1 hb.2.2.2.1 hb.2.2.2.2 q
  self := fun A i s Q E t h => it_self t.1 h
def iZw (K : PySem.W.Frag) (st : Bool) (ta : TA) : TI := fun σ H R => ta σ H fun vs H1 => ∃ ka kb a b xs ys, vs = [.ref a, .ref b] ∧ SqV K H1 ka a xs ∧ SqV K H1 kb b ys ∧ R (Itw K ka kb st a b) H1
section
variable {X : Cx} {e e2 : Expr} {ta : TA} {p pos tpos : Pos} {elts : List Expr} {kk : Nat}
theorem fresh5 {pins : List (Addr × Obj)} {σ : L2.St} {H : Hp} {s : Shared} (I : Inv X pins σ H s) : ∀ c, c ∈ [s.heap.objs.size + 4, s.heap.objs.size + 2, s.heap.objs.size + 3, s.heap.objs.size, s.heap.objs.size + 1] → FpOk X pins H c := fun c hm => by
  have hle : s.heap.objs.size ≤ c := by
    simp only [List.mem_cons, List.not_mem_nil, or_false] at hm
    omega
  exact I.fpOk hle (I.hok.fresh hle)
theorem pi_zw (hg : Gl X "zip") (hm : X.mg "zip" = none) (ha : PA X [e, e2] ta) (hs : starEach [e, e2] X.env = (false, eval e X.env) :: starEach [e2] X.env := by rfl) (hp : (backTo pos (starEach [e2] X.env)).any (·.1) = false := by rfl) :
    PI X (.Tuple elts kk tpos) (.Call (.Name "zip" p) [e, e2] [] pos) (iZw X.K false ta) := by
  refine ⟨fun pins s σ H R I h => ?_⟩
  refine Call_ (ld_blt I hg hm PyProof.Rows.boot_zip (PyProof.Rows.callWith_type1 (thn (ha.run pos pins s σ H _ I h) fun us s1 ⟨vs, H1, I1, r1, q1⟩ => ?_) hs hp))
  obtain ⟨ka, kb, a, b, xs, ys, rfl, qx, qy, q⟩ := q1
  cases r1 with
  | cons r rr =>
    cases rr with
    | cons r' rr =>
      cases rr
      cases r
      cases r'
      obtain ⟨its, _, p1, la⟩ := sq_of I1 qx
      obtain ⟨its2, _, p2, lb⟩ := sq_of I1 qy
      refine call_plain p1 p2 fun h' zn => it_self zn.1 ?_
      have I2 : Inv X pins σ H1 { s1 with heap := h' } := I1.kept (t' := s1.toks) zn.2.2.2.2.2
      exact ⟨s1.heap.objs.size + 4, _, _, _, H1, rfl, I2, turn_w (PySem.W.ktu_apart s1.heap.objs.size a b la lb), ⟨zn.1, zn.2.1, ⟨_, _, zn.2.2.1⟩, zn.2.2.2.1, zn.2.2.2.2.1⟩, fresh5 I1, q⟩
theorem cw_type {M : Model} {A : Around} {E : Value → Shared → Prop} {s : Shared} {T : String} {args : List (Bool × Sem Value)} {kws : List (Option Str × Sem Value)} {Q : Value → Shared → Prop} (hp : args.any (·.1) = false) (hk : kws.any (·.1.isNone) = false)
    (h : wpAny M A (evalArgs (.type T) true args kws) (fun a t => wpAny M A (call (.type T) a.pos a.kw) Q E t) E s) : wpAny M A (callWith pos (.type T) [] args kws) Q E s := by
  unfold callWith
  refine wpAny_bind (wpAny_holding (thn h fun a t ht => wpAny_bind (wpAny_standAt ?_)))
  simp only [hp, hk, Bool.or_false]
  refine wpAny_bind (m := keeperOf _) (wpAny_pure ?_)
  exact wpAny_bind (thn ht fun r t' hr => wpAny_bind (wpAny_holding (wpAny_point (wpAny_pure hr))))
theorem pi_zs {j : Nat} {q1 q2 : Pos} (hg : Gl X "zip") (hm : X.mg "zip" = none) (ha : PA X [e, e2] ta)
    (he : backTo pos (starEach [e, e2] X.env) = (false, eval e X.env) :: backTo pos (starEach [e2] X.env) := by rfl) (hp : (backTo pos (starEach [e, e2] X.env)).any (·.1) = false := by rfl) :
    PI X (.Tuple elts kk tpos) (.Call (.Name "zip" p) [e, e2] [⟨some (Str.ofString "strict"), .Constant (.bool true) j q1, q2⟩] pos) (iZw X.K true ta) := by
  refine ⟨fun pins s σ H R I h => ?_⟩
  refine PySem.wpAny_Call_Name_kw (ld_blt I hg hm PyProof.Rows.boot_zip (cw_type hp rfl ?_))
  rw [he]
  refine PyProof.Rows.evalArgs_kwB rfl ?_
  rw [← he]
  refine thn (ha.run pos pins s σ H _ I h) fun us s1 ⟨vs, H1, I1, r1, q1⟩ => ?_
  refine thn ((pk_cons pe_bl pk_nil).run pos pins s1 σ H1 (fun zs H2 => zs = [V.bl true] ∧ H2 = H1) I1 ⟨rfl, rfl⟩) fun ws s2 ⟨zs, H2, I2, r2, ez, eH⟩ => ?_
  subst ez eH
  obtain ⟨ka, kb, a, b, xs, ys, rfl, qx, qy, q⟩ := q1
  cases r2 with
  | cons t1 t2 =>
    cases t2
    cases t1
    cases r1 with
    | cons r rr =>
      cases rr with
      | cons r' rr =>
        cases rr
        cases r
        cases r'
        obtain ⟨its, _, p1, la⟩ := sq_of I2 qx
        obtain ⟨its2, _, p2, lb⟩ := sq_of I2 qy
        refine call_strict p1 p2 fun h' zn => it_self zn.1 ?_
        have I3 : Inv X pins σ H2 { s2 with heap := h' } := I2.kept (t' := s2.toks) zn.2.2.2.2.2
        exact ⟨s2.heap.objs.size + 4, _, _, _, H2, rfl, I3, turn_w (PySem.W.ktu_apart s2.heap.objs.size a b la lb), ⟨zn.1, zn.2.1, ⟨_, _, zn.2.2.1⟩, zn.2.2.2.1, zn.2.2.2.2.1⟩, fresh5 I2, q⟩
end
end HZ
set_option maxHeartbeats 4000000
/-! enumerate of any list or tuple -/
namespace HZ
open PySem PySem.Spec PyProof.Rows L2
open PySem.Sem (wp)
theorem ItK.ext {h h' : Heap} {k : Bool} {t l : Addr} {i : Nat} (x : ItK h k t l i) (e : ∀ b ∈ [t, l], ∀ o, h.get? b = some o → h'.get? b = some o) : ItK h' k t l i := x.to fun o y => e t (by simp) o y
/-- what an iterator of either kind draws -/
theorem draws_k {prog : Program} {w : World} {A : Around} (hd : A.handled = none) (k : Bool) (t l : Addr) (ne : l ≠ t) (q : Array Value) : Draws prog w A t [t, l] q.size (fun i v => q[i]? = some v) (fun i h => ItK h k t l i ∧ SqK h k l q) where
  live := fun _ _ st => let ⟨o, e, _⟩ := st.1.obj; ⟨o, e⟩
  frame := fun _ _ _ st c => ⟨st.1.to fun o e => c t (by simp) o e, st.2.to fun o e => c l (by simp) o e⟩
  item := fun i s Q E hi st g => by
    refine nx_item st.1 st.2 (x := q[i]) (by simp [hi]) fun h' p sb => ?_
    exact g _ h' s.toks (by simp [hi]) ⟨p, st.2.to fun o e => (sb.2 l ne).trans e⟩ sb
  done := fun s Q E st g => nx_end hd st.1 st.2 (by simp) g
/-- at its end -/
theorem draws_end {prog : Program} {w : World} {A : Around} (hd : A.handled = none) (k : Bool) (t l : Addr) (q : Array Value) (n : Nat) (hn : q.size ≤ n) : Draws prog w A t [t, l] n (fun _ _ => False) (fun i h => i = n ∧ ItK h k t l i ∧ SqK h k l q) where
  live := fun _ _ st => let ⟨o, e, _⟩ := st.2.1.obj; ⟨o, e⟩
  frame := fun _ _ _ st c => ⟨st.1, st.2.1.to fun o e => c t (by simp) o e, st.2.2.to fun o e => c l (by simp) o e⟩
  item := fun i s Q E hi st g => absurd st.1 (Nat.ne_of_lt hi)
  done := fun s Q E st g => nx_end hd st.2.1 st.2.2 (by simp; omega) g
theorem new_enum (k : Bool) (l : Addr) (q : Array Value) :
    Meets (Builtin.«enumerate.__new__» ⟨[.type "enumerate", .ref l], []⟩) (fun _ R s => SqK s.heap k l q ∧
      R (.ok (.ret (.ref (s.heap.push (ito k l)).objs.size))) { s with heap := (s.heap.push (ito k l)).push { cls := .type "enumerate", data := .fields #[.none, .bool false, .ref s.heap.objs.size, rawInt 0, .none, .none] } }) :=
  .of_wp fun prog w A R s h => by
    obtain ⟨hp, g, d, tk, os⟩ := s
    obtain ⟨sq, h⟩ := h
    have sub := sub_enumerate
    wp_walk using it_new sq
    refine wpAny_stack_any fun st => wpAny_pure ?_
    split
    · rename_i c _ _ _ _ _
      cases (c == Value.type "enumerate") <;> (wp_walk using it_new sq; exact ⟨_, rfl, h⟩)
    · wp_walk using it_new sq
      exact ⟨_, rfl, h⟩
section
variable {prog : Program} {w : World} {A : Around} {E : Value → Shared → Prop} {s : Shared}
theorem call_enum {k : Bool} {l : Addr} {q : Array Value} {Q : Value → Shared → Prop} (sq : SqK s.heap k l q)
    (g : ∀ h', IsEnum h' (s.heap.objs.size + 1) s.heap.objs.size 0 .none → ItK h' k s.heap.objs.size l 0 → h'.objs.size = s.heap.objs.size + 2 → (∀ b o, s.heap.get? b = some o → h'.get? b = some o) → Q (.ref (s.heap.objs.size + 1)) { s with heap := h' }) :
    wpAny (model prog w) A (call (.type "enumerate") [.ref l]) Q E s := by
  refine callType_new F.called_enumerate (by decide) (F.typeCall_enumerate_1 _) (F.newCall_enumerate_1 _) (fun obj => F.args_object_init_2 obj _) F.entry_enumerate_new (new_enum k l q) ⟨sq, ?_⟩
  have z : (s.heap.push (ito k l)).objs.size = s.heap.objs.size + 1 := Heap.size_push ..
  show _ ∧ _
  rw [z]
  have ie : IsEnum ((s.heap.push (ito k l)).push { cls := .type "enumerate", data := .fields #[.none, .bool false, .ref s.heap.objs.size, rawInt 0, .none, .none] }) (s.heap.objs.size + 1) s.heap.objs.size 0 .none := by
    have y := Heap.get?_push_size (s.heap.push (ito k l)) (o := { cls := .type "enumerate", data := .fields #[.none, .bool false, .ref s.heap.objs.size, rawInt 0, .none, .none] }) rfl
    rw [z] at y
    exact y
  refine ⟨⟨_, ie, rfl⟩, g _ ie (ito_it (Heap.get?_push_of_some _ (Heap.get?_push_size _ (ito_free k l)))) (by rw [Heap.size_push, z]) fun b o e => Heap.get?_push_of_some _ (Heap.get?_push_of_some _ e)⟩
end
/-- what is walked at a, each item in a new pair with its number -/
def Itn (K : PySem.W.Frag) (k : Bool) (a : Addr) : It :=
  ⟨fun i H => ∃ (xs : List V) (x : V), SqV K H k a xs ∧ xs[i]? = some x, fun i H v H' => ∃ T x, v = .ref T ∧ H T = none ∧ H' = upd H T (.tup [.int (i : Nat), x]) ∧ ∀ xs, SqV K H k a xs → xs[i]? = some x, fun i H => ∃ xs : List V, SqV K H k a xs ∧ xs.length ≤ i⟩
theorem turn_n {P : Program} {w : World} {K : PySem.W.Frag} {elts : List Expr} {kk : Nat} {tpos : Pos} (k : Bool) (a e it : Addr) :
    Turn P w K (.Tuple elts kk tpos) (Itn K k a) [e, it] e (fun i h => (∃ old, IsEnum h e it ((i : Nat) : Int) old) ∧ ItK h k it a i ∧ e ≠ it ∧ a ≠ it ∧ e ≠ a) where
  mem := by simp
  obj := fun i h st b hb => by
    obtain ⟨⟨old, he⟩, hi, _⟩ := st
    simp only [List.mem_cons, List.not_mem_nil, or_false] at hb
    rcases hb with z | z
    · rw [z]
      exact ⟨_, he, fun v q => nomatch q⟩
    · rw [z]
      exact hi.obj
  keep := fun i h h' st c => by
    obtain ⟨⟨old, he⟩, hi, ne⟩ := st
    exact ⟨⟨old, c e (by simp) _ he⟩, hi.to fun o q => c it (by simp) o q, ne⟩
  item := by
    intro X hP hw hK hc i pins s σ H E I hf st hg
    subst hP hw hK
    obtain ⟨⟨old, he⟩, hit, ne, na, nea⟩ := st
    obtain ⟨xs, x, hq, hx⟩ := hg
    obtain ⟨its, rv, sk, al⟩ := sq_of I hq
    obtain ⟨u, hu, ru⟩ := rv.get hx
    have el : e < s.heap.objs.size := Heap.lt_size he
    have il : it < s.heap.objs.size := hit.lt
    have iz : i < its.toArray.size := by
      have := (List.getElem?_eq_some_iff.mp hu).1
      simpa using this
    refine wpAny_pyNext_enum_itemD (draws_k (A := X.A.in1) (I.ok.hd hc) k it a na its.toArray) he ⟨hit, sk⟩ iz ne (by simp [ne, nea]) fun y h' tk hy ho st' hT hsz c => ?_
    have hy : u = y := by
      have : its.toArray[i]? = some u := by simpa using hu
      rw [this] at hy
      exact Option.some.inj hy
    subst hy
    refine ⟨_, rfl, wpAny_letOwnedTupleGo_enum (s := { s with heap := h', toks := tk + 1 }) ho fun h2 he2 sb => ?_⟩
    have hT2 : h2.get? s.heap.objs.size = some { cls := .type "tuple", data := .seq #[.int i tk, u] } := (sb.2 _ (Nat.ne_of_gt el)).trans hT
    have new : ObjOk X.prog X.w (upd H s.heap.objs.size (.tup [.int (i : Nat), x])) h2 s.heap.objs.size (.tup [.int (i : Nat), x]) := ⟨by show 2 ≤ sizeLine; decide, [.int i tk, u], .cons ⟨_, rfl⟩ (.cons ru .nil), ⟨_, hT2, rfl, _, rfl⟩⟩
    have I1 : Inv X pins σ (upd H s.heap.objs.size (.tup [.int (i : Nat), x])) { s with heap := h2, toks := tk + 1 } :=
      I.turnedNew (ch := [e, it]) (fun b ob hb q => (sb.2 b (fun z => hb (by simp [z]))).trans (c b ob (fun z => hb (by simp [z])) (fun z => hb (by simp [z])) q)) hf (Nat.le_refl _) new
    refine ⟨.ref s.heap.objs.size, _, I1, rfl, ⟨_, x, rfl, I.hok.fresh (Nat.le_refl _), rfl, fun ys hy => by rw [sq_inj I hy hq]; exact hx⟩, ⟨⟨u, ?_⟩, st'.1.to fun o q => (sb.2 it (Ne.symm ne)).trans q, ne, na, nea⟩, fun b hb => ?_⟩
    · have e1 : ((i + 1 : Nat) : Int) = (i : Int) + 1 := by omega
      rw [e1]
      exact he2
    · have lt : b < s.heap.objs.size := by
        simp only [List.mem_cons, List.not_mem_nil, or_false] at hb
        rcases hb with z | z
        · rw [z]
          exact el
        · rw [z]
          exact il
      rw [upd_ne (Nat.ne_of_lt lt)]
      exact (hf b hb).1
  done := by
    intro X hP hw hK hc i pins s σ H E I hf st hg
    subst hP hw hK
    obtain ⟨⟨old, he⟩, hit, ne, na, nea⟩ := st
    obtain ⟨xs, hq, hx⟩ := hg
    obtain ⟨its, rv, sk, al⟩ := sq_of I hq
    obtain ⟨f0, f1, f2, f3, f4, f5⟩ := hf it (by simp)
    have len := rv.length
    exact wpAny_pyNext_enum_endD (draws_end (A := X.A.in1) (I.ok.hd hc) k it a its.toArray i (by simp; omega)) he ⟨rfl, hit, sk⟩ fun h' eb => ⟨rfl, I.turned (t' := s.toks) (fun b o hb q => eb b o hb q) f0 f1 f3 f4 f5⟩
  self := fun A i s Q E st g => let ⟨⟨_, he⟩, _⟩ := st; wpAny_pyIter_enum he g
def iEn (K : PySem.W.Frag) (ta : TA) : TI := fun σ H R => ta σ H fun vs H1 => ∃ k a xs, vs = [.ref a] ∧ SqV K H1 k a xs ∧ R (Itn K k a) H1
theorem pi_n {X : Cx} {e : Expr} {ta : TA} {p pos tpos : Pos} {elts : List Expr} {kk : Nat} (hg : Gl X "enumerate") (hm : X.mg "enumerate" = none) (ha : PA X [e] ta) (hs : starEach [e] X.env = [(false, eval e X.env)] := by rfl) :
    PI X (.Tuple elts kk tpos) (.Call (.Name "enumerate" p) [e] [] pos) (iEn X.K ta) := by
  refine ⟨fun pins s σ H R I z => ?_⟩
  refine Call_ (ld_blt I hg hm boot_enumerate (PyProof.Rows.callWith_type1 (thn (ha.run pos pins s σ H _ I z) fun us s1 ⟨vs, H1, I1, r1, q1⟩ => ?_) hs rfl))
  obtain ⟨k, a, xs, rfl, hq, q⟩ := q1
  cases r1 with
  | cons r rr =>
    cases rr
    cases r
    obtain ⟨its, rv, sk, al⟩ := sq_of I1 hq
    refine call_enum sk fun h' he hit hsz hk => wpAny_pyIter_enum he ?_
    have I2 : Inv X pins σ H1 { s1 with heap := h' } := I1.kept (t' := s1.toks) hk
    refine ⟨s1.heap.objs.size + 1, [s1.heap.objs.size + 1, s1.heap.objs.size], _, _, H1, rfl, I2, turn_n k a (s1.heap.objs.size + 1) s1.heap.objs.size, ⟨⟨.none, he⟩, hit, Nat.succ_ne_self _, Nat.ne_of_lt al, Nat.ne_of_gt (Nat.lt_succ_of_lt al)⟩, fun b hb => ?_, q⟩
    simp only [List.mem_cons, List.not_mem_nil, or_false] at hb
    have le : s1.heap.objs.size ≤ b := by
      rcases hb with z | z
      · rw [z]
        exact Nat.le_add_right _ _
      · rw [z]
        exact Nat.le_refl _
    exact I1.fpOk le (I1.hok.fresh le)
end HZ
/-! The mirror evaluator: values as trees, a heap of mutable objects, a small syntax, its meaning. -/
namespace MX
open PySem

def rgOk (a b : Int) : Bool := decide (-(2 ^ 62) ≤ a) && decide (a < 2 ^ 62) && decide (-(2 ^ 62) ≤ b) && decide (b < 2 ^ 62) && decide ((b - a).toNat ≤ 2 ^ 24)
/-- data: what never changes is a tree; a mutable object is its number -/
inductive D where
  | non | bl (b : Bool) | int (i : Int) | str (x : Str) | tup (xs : List D) | ref (r : Nat) | scr (ns : List Int) | exn (c f : Str) (xs : List D)
  deriving Inhabited

/-- a mutable object -/
inductive MO where
  | lst (xs : List D) | dct (kvs : List (D × D)) | ins (c : Nat) (fs : List (Str × D)) | dcm (kvs : List (D × D))
  deriving Inhabited
abbrev Hh := List MO

/-- an exception in flight: its class, its fields -/
structure XV where
  cls : Nat
  fs : List (Nat × D)
inductive R (α : Type) where
  | ok (a : α) (h : Hh) | exc (x : XV) (h : Hh) | bad
abbrev M (α : Type) := Hh → R α
namespace M
def pure {α : Type} (a : α) : M α := fun h => .ok a h
def bind {α β : Type} (m : M α) (f : α → M β) : M β := fun h => match m h with
  | .ok a h' => f a h'
  | .exc x h' => .exc x h'
  | .bad => .bad
def bad {α : Type} : M α := fun _ => .bad
def opt {α : Type} (o : Option α) : M α := fun h => match o with
  | some a => .ok a h
  | none => .bad
end M

/-! ### heap -/
def alloc (o : MO) : M D := fun h => .ok (.ref h.length) (h ++ [o])
def getO (h : Hh) : D → Option MO
  | .ref r => h[r]?
  | _ => none
def seqOf (h : Hh) : D → Option (List D)
  | .tup xs => some xs
  | .ref r => match h[r]? with
    | some (.lst xs) => some xs
    | _ => none
  | .scr ns => some (ns.map .int)
  | _ => none

/-! ### data as the library's data -/
def optMap {α β : Type} (f : α → Option β) : List α → Option (List β)
  | [] => some []
  | x :: xs => match f x with
    | none => none
    | some y => match optMap f xs with
      | none => none
      | some ys => some (y :: ys)
def toP (h : Hh) : Nat → D → Option PyData
  | 0, _ => none
  | _ + 1, .non => some .none
  | _ + 1, .bl b => some (.bool b)
  | _ + 1, .int i => some (.int i)
  | _ + 1, .str x => some (.str x)
  | k + 1, .tup xs => match optMap (toP h k) xs with
    | some ys => some (.tuple ys)
    | none => none
  | k + 1, .ref r => match h[r]? with
    | some (.lst xs) => match optMap (toP h k) xs with
      | some ys => some (.list ys)
      | none => none
    | some (.dct kvs) => match optMap (fun p => match toP h k p.1, toP h k p.2 with
        | some a, some b => some (a, b)
        | _, _ => none) kvs with
      | some ys => some (.dict ys)
      | none => none
    | _ => none
  | _ + 1, .scr _ => none
  | _ + 1, .exn .. => none
/-- how deep data are looked at -/
def deep : Nat := 20

/-! ### operations -/
inductive BOp | add | sub | mul | fdiv | mod | pow
  deriving DecidableEq
inductive COp | eq | ne | lt | le | gt | ge | isin | notin | isb | nib
  deriving DecidableEq
inductive Ty | int | bool | str | tuple | list | dict
  deriving DecidableEq

def addD : D → D → M D
  | .int i, .int j => M.pure (.int (i + j))
  | .str x, .str y => if x.length + y.length ≤ sizeLine then M.pure (.str (x ++ y)) else M.bad
  | .tup xs, .tup ys => if xs.length + ys.length ≤ sizeLine then M.pure (.tup (xs ++ ys)) else M.bad
  | .ref a, .ref b => fun h => match h[a]?, h[b]? with
    | some (.lst xs), some (.lst ys) => if xs.length + ys.length ≤ sizeLine then alloc (.lst (xs ++ ys)) h else .bad
    | _, _ => .bad
  | _, _ => M.bad
def mulD : D → D → M D
  | .int i, .int j => if i.natAbs.log2 + j.natAbs.log2 < 1000000 then M.pure (.int (i * j)) else M.bad
  | .ref a, .int k => fun h => match h[a]? with
    | some (.lst xs) => if 0 ≤ k ∧ k < 1000000 ∧ xs.length * k.toNat ≤ sizeLine then alloc (.lst ((List.replicate k.toNat xs).flatten)) h else .bad
    | _ => .bad
  | .tup xs, .int k => if k = 1 then M.pure (.tup xs) else if xs ≠ [] ∧ k = 0 then M.pure (.tup []) else if xs ≠ [] ∧ 2 ≤ k ∧ k ≤ 1000 ∧ xs.length ≤ 1000 then M.pure (.tup (List.replicate k.toNat xs).flatten) else M.bad
  | _, _ => M.bad
def fdivD : D → D → M D
  | .int i, .int j => if 0 < j ∧ j.natAbs.log2 < 9000 then M.pure (.int (i / j)) else M.bad
  | _, _ => M.bad
def modD : D → D → M D
  | .int i, .int j => if 0 < j then M.pure (.int (i % j)) else M.bad
  | _, _ => M.bad
def powD : D → D → M D
  | .int i, .int j => if 0 ≤ j ∧ ((i.natAbs.log2 + 1 : Nat) : Int) * j ≤ 1000000 then M.pure (.int (i ^ j.toNat)) else M.bad
  | _, _ => M.bad
def binD : BOp → D → D → M D
  | .add, a, b => addD a b
  | .sub, .int i, .int j => M.pure (.int (i - j))
  | .sub, _, _ => M.bad
  | .mul, a, b => mulD a b
  | .fdiv, a, b => fdivD a b
  | .mod, a, b => modD a b
  | .pow, a, b => powD a b
def eqD (h : Hh) (a b : D) : Option Bool := match toP h deep a, toP h deep b with
  | some p, some q => if p.canLay0 && q.canLay0 then some (PyData.eqv p q) else none
  | _, _ => none
/-- a tuple beside the empty one is not looked into -/
def eqX (h : Hh) (a b : D) : Option Bool := match a, b with
  | .tup xs, .tup [] => some xs.isEmpty
  | a, b => eqD h a b
def inD (h : Hh) : D → D → Option Bool
  | .str x, .str y => match x.cps.toList with
    | [c] => some (decide (c ∈ y.cps.toList))
    | _ => none
  | a, b => match seqOf h b with
    | some ys => match toP h deep a, optMap (toP h deep) ys with
      | some p, some qs => if p.canLay0 && PyData.canLayAll0 qs then some (qs.any fun q => PyData.eqv q p) else none
      | _, _ => none
    | none => none
def cmpD (o : COp) (a b : D) : M D := fun h => match o with
  | .eq => match eqX h a b with | some k => .ok (.bl k) h | none => .bad
  | .ne => match eqD h a b with | some k => .ok (.bl (!k)) h | none => .bad
  | .isin => match inD h a b with | some k => .ok (.bl k) h | none => .bad
  | .notin => match inD h a b with | some k => .ok (.bl (!k)) h | none => .bad
  | .lt => match a, b with | .int i, .int j => .ok (.bl (decide (i < j))) h | _, _ => .bad
  | .le => match a, b with | .int i, .int j => .ok (.bl (decide (i ≤ j))) h | _, _ => .bad
  | .gt => match a, b with | .int i, .int j => .ok (.bl (decide (j < i))) h | _, _ => .bad
  | .ge => match a, b with | .int i, .int j => .ok (.bl (decide (j ≤ i))) h | _, _ => .bad
  | .isb => match a, b with | .bl c, .bl k => .ok (.bl (decide (c = k))) h | _, _ => .bad
  | .nib => match a, b with | .bl c, .bl k => .ok (.bl (!decide (c = k))) h | _, _ => .bad
def truD (h : Hh) : D → Option Bool
  | .non => some false
  | .bl b => some b
  | .int i => some (i != 0)
  | .str x => if x.length ≤ sizeLine then some (x.length != 0) else none
  | .tup xs => some (!xs.isEmpty)
  | .ref r => match h[r]? with
    | some (.lst xs) => some (!xs.isEmpty)
    | _ => none
  | .scr _ => none
  | .exn .. => none
def tru (d : D) : M Bool := fun h => match truD h d with
  | some b => .ok b h
  | none => .bad
def isTy (h : Hh) (t : Ty) : D → Option Bool
  | .non => some false
  | .bl _ => some (t == .int || t == .bool)
  | .int _ => some (t == .int)
  | .str _ => some (t == .str)
  | .tup _ => some (t == .tuple)
  | .ref r => match h[r]? with
    | some (.lst _) => some (t == .list)
    | some (.dct _) => some (t == .dict)
    | _ => none
  | .scr _ => none
  | .exn .. => none

/-- the value of a text among the entries of a dict -/
def txIs (x : Str) : D → Bool
  | .str y => decide (y = x)
  | _ => false
def dget (kvs : List (D × D)) (x : Str) : Option D := (kvs.find? fun p => txIs x p.1).map (·.2)
def idxD (a i : D) : M D := fun h => match i with
  | .str x => match a with
    | .ref r => match h[r]? with
      | some (.dct kvs) => match dget kvs x with
        | some d => .ok d h
        | none => .bad
      | _ => .bad
    | _ => .bad
  | .int k => match seqOf h a with
    | some xs => match L2.atI xs k with
      | some d => .ok d h
      | none => .bad
    | none => .bad
  | _ => .bad
/-- a[i] = v -/
def setD (a i v : D) : M Unit := fun h => match a, i with
  | .ref r, .int k => match h[r]? with
    | some (.lst xs) => match L2.ixN xs.length k with
      | some j => .ok () (h.set r (.lst (xs.set j v)))
      | none => .bad
    | _ => .bad
  | _, _ => .bad

/-- a part of a slice: there or not -/
def partM (b : Bool) (d : D) : M (Option Int) := fun h => match b, d with
  | false, _ => .ok none h
  | true, .int i => .ok (some i) h
  | true, _ => .bad
def cutD (xs : List D) (lo hi : Option Int) : List D := (xs.drop (HT.sIx xs.length 0 lo)).take (HT.sIx xs.length xs.length hi - HT.sIx xs.length 0 lo)
def slcD (a : D) (lo hi : Option Int) : M D := fun h => match a with
  | .tup xs => .ok (.tup (cutD xs lo hi)) h
  | .ref r => match h[r]? with
    | some (.lst xs) => alloc (.lst (cutD xs lo hi)) h
    | _ => .bad
  | _ => .bad
/-- a field put -/
def putA (f : Str) (v : D) : List (Str × D) → List (Str × D)
  | [] => [(f, v)]
  | (g, x) :: r => if g = f then (g, v) :: r else (g, x) :: putA f v r
/-- the integers from i up to j, as a list -/
def rngI (i j : Int) : List D := (List.range (j - i).toNat).map fun (k : Nat) => .int (i + (k : Int))
def lrngM (a b : D) : M D := fun h => match a, b with
  | .int i, .int j => if rgOk i j = true then alloc (.lst (rngI i j)) h else .bad
  | _, _ => .bad
def seqM (d : D) : M (List D) := fun h => match seqOf h d with
  | some xs => .ok xs h
  | none => .bad

/-! ### built-in functions -/
inductive Bt | len | abs | max | min | int | list | tuple | repr | all | sum | sorted
  deriving DecidableEq
inductive Bm | append | insert | join | index | pop | extend
  deriving DecidableEq
def lenD (h : Hh) : D → Option Nat
  | .str x => if x.length ≤ sizeLine then some x.length else none
  | .ref r => match h[r]? with
    | some (.dct kvs) => some kvs.length
    | some (.lst xs) => some xs.length
    | _ => none
  | .tup xs => some xs.length
  | .scr ns => some ns.length
  | _ => none
def bools : List D → Option (List Bool)
  | [] => some []
  | .bl b :: r => (bools r).map (b :: ·)
  | _ :: _ => none
def strsOf : List D → Option (List Str)
  | [] => some []
  | .str x :: r => (strsOf r).map (x :: ·)
  | _ :: _ => none
def reprD (h : Hh) (d : D) : Option Str := match toP h deep d with
  | some p => if p.showable && decide (p.shown.length ≤ sizeLine) then some p.shown else none
  | none => none
def sign1 (c : Nat) : D := .str ⟨#[c]⟩
def intsOf : List D → Option (List Int)
  | [] => some []
  | .int i :: r => (intsOf r).map (i :: ·)
  | _ :: _ => none
/-- the greatest, the least of some integers -/
def most (f : Int → Int → Int) : List Int → Option Int
  | [] => none
  | i :: r => some (r.foldl f i)
/-- the integers of a list -/
def listInts (h : Hh) : D → Option (List Int)
  | .ref r => match h[r]? with
    | some (.lst xs) => intsOf xs
    | _ => none
  | _ => none
/-- the integers of a list or a tuple -/
def seqInts (h : Hh) : D → Option (List Int)
  | .tup xs => intsOf xs
  | d => listInts h d
def extM (f : Int → Int → Int) (d : D) : M D := fun h => match listInts h d with
  | some ns => match most f ns with
    | some m => .ok (.int m) h
    | none => .bad
  | none => .bad
def bt1 (f : D → M D) : List D → M D
  | [d] => f d
  | _ => M.bad
def bt2 (f : D → D → M D) : List D → M D
  | [a, b] => f a b
  | _ => M.bad
def intsM (f : Int → Int → Int) : D → D → M D
  | .int i, .int j => M.pure (.int (f i j))
  | _, _ => M.bad
def btD : Bt → List D → M D
  | .len => bt1 fun d h => match lenD h d with
    | some n => .ok (.int n) h
    | none => .bad
  | .abs => bt1 fun d => match d with
    | .int i => M.pure (.int (if i < 0 then -i else i))
    | _ => M.bad
  | .max => fun ds => match ds with
    | [d] => extM (fun i j => if j > i then j else i) d
    | ds => bt2 (intsM fun i j => if j > i then j else i) ds
  | .min => fun ds => match ds with
    | [d] => extM (fun i j => if j < i then j else i) d
    | ds => bt2 (intsM fun i j => if j < i then j else i) ds
  | .sum => bt1 fun d h => match seqInts h d with
    | some ns => .ok (.int ns.sum) h
    | none => .bad
  | .int => bt1 fun d => match d with
    | .int i => M.pure (.int i)
    | .bl k => M.pure (.int (if k then 1 else 0))
    | _ => M.bad
  | .list => bt1 fun d h => match d with
    | .str x => if x.cps.size ≤ sizeLine then alloc (.lst (x.cps.toList.map sign1)) h else .bad
    | .ref r => match h[r]? with
      | some (.lst xs) => alloc (.lst xs) h
      | some (.dct kvs) => alloc (.lst (kvs.map (·.1))) h
      | _ => .bad
    | d => match seqOf h d with
      | some xs => alloc (.lst xs) h
      | none => .bad
  | .sorted => bt1 fun d h => match d with
    | .ref r => match h[r]? with
      | some (.lst []) => alloc (.lst []) h
      | some (.lst [.str x]) => alloc (.lst [.str x]) h
      | _ => .bad
    | _ => .bad
  | .tuple => bt1 fun d h => match seqOf h d with
    | some xs => .ok (.tup xs) h
    | none => .bad
  | .repr => bt1 fun d h => match reprD h d with
    | some x => .ok (.str x) h
    | none => .bad
  | .all => bt1 fun d h => match d with
    | .ref r => match h[r]? with
      | some (.lst xs) => match bools xs with
        | some bs => .ok (.bl (bs.all id)) h
        | none => .bad
      | _ => .bad
    | _ => .bad
def appendM (r : Nat) (d : D) : M D := fun h => match h[r]? with
  | some (.lst xs) => if xs.length < sizeLine then .ok .non (h.set r (.lst (xs ++ [d]))) else .bad
  | _ => .bad
def insertM (r : Nat) (i : Int) (d : D) : M D := fun h => match h[r]? with
  | some (.lst xs) => if xs.length < sizeLine ∧ 0 ≤ i ∧ i < 1000000 then .ok .non (h.set r (.lst (xs.take i.toNat ++ [d] ++ xs.drop i.toNat))) else .bad
  | _ => .bad
def indexM (d e : D) : M D := fun h => match listInts h d, e with
  | some ns, .int k => if ns.contains k = true then .ok (.int (ns.findIdx (· == k) : Nat)) h else .bad
  | _, _ => .bad
def popM (r : Nat) (d : D) : M D := fun h => match h[r]?, d with
  | some (.lst xs), .int i => match seqIndex? i xs.length with
    | some k => match xs[k]? with
      | some x => if -(2 ^ 63) ≤ i ∧ i < 2 ^ 63 then .ok x (h.set r (.lst (xs.take k ++ xs.drop (k + 1)))) else .bad
      | none => .bad
    | none => .bad
  | _, _ => .bad
def extendM (r : Nat) (d : D) : M D := fun h => match h[r]?, d with
  | some (.lst xs), .ref b => match h[b]? with
    | some (.lst ys) => if xs.length + ys.length ≤ sizeLine then .ok .non (h.set r (.lst (xs ++ ys))) else .bad
    | _ => .bad
  | _, _ => .bad
def joinM (a : Str) (d : D) : M D := fun h => match seqOf h d with
  | some xs => match strsOf xs with
    | some ys => if (ys.map (·.length)).sum + ys.length * a.length ≤ 16777216 then .ok (.str (Txt.join a ys)) h else .bad
    | none => .bad
  | none => .bad
def bmD : Bm → D → List D → M D
  | .append => fun o => match o with
    | .ref r => bt1 (appendM r)
    | _ => fun _ => M.bad
  | .insert => fun o => match o with
    | .ref r => bt2 fun i d => match i with
      | .int k => insertM r k d
      | _ => M.bad
    | _ => fun _ => M.bad
  | .join => fun o => match o with
    | .str a => bt1 (joinM a)
    | _ => fun _ => M.bad
  | .index => fun o => bt1 (indexM o)
  | .pop => fun o => match o with
    | .ref r => bt1 (popM r)
    | _ => fun _ => M.bad
  | .extend => fun o => match o with
    | .ref r => bt1 (extendM r)
    | _ => fun _ => M.bad

/-- the receiver is of the method's kind -/
def bmK : Bm → D → M Unit
  | .join, .str _ => M.pure ()
  | .append, .ref r => fun h => match h[r]? with
    | some (.lst _) => .ok () h
    | _ => .bad
  | .insert, .ref r => fun h => match h[r]? with
    | some (.lst _) => .ok () h
    | _ => .bad
  | .index, .ref r => fun h => match h[r]? with
    | some (.lst _) => .ok () h
    | _ => .bad
  | .pop, .ref r => fun h => match h[r]? with
    | some (.lst _) => .ok () h
    | _ => .bad
  | .extend, .ref r => fun h => match h[r]? with
    | some (.lst _) => .ok () h
    | _ => .bad
  | _, _ => M.bad

/-! ### the small syntax -/
mutual
inductive Tg where
  | name (i : Nat) | tup (ts : Tgs)
inductive Tgs where
  | nil | cons (t : Tg) (ts : Tgs)
end
mutual
def slotsT : Tg → List Nat
  | .name i => [i]
  | .tup ts => slotsTs ts
def slotsTs : Tgs → List Nat
  | .nil => []
  | .cons t ts => slotsT t ++ slotsTs ts
end
mutual
inductive CE where
  | slot (i : Nat) | con (d : D)
  | bin (o : BOp) (a b : CE) | neg (a : CE) | notE (a : CE) | andE (a b : CE) | orE (a b : CE)
  | cmp (o : COp) (a b : CE) | isN (a : CE) | notN (a : CE) | chain (o1 o2 : COp) (a b c : CE) | ife (t a b : CE)
  | tup (es : CEs) | lst (es : CEs) | edct
  | idx (a i : CE) | rev (a : CE)
  | call (f : Nat) (es : CEs) | bt (b : Bt) (es : CEs) | bm (m : Bm) (o : CE) (es : CEs)
  | isi (a : CE) (t : Ty)
  | comp (elt : CE) (own : List Nat) (tg : Tg) (it : It) (cond : CEs)
  | lam (g : Nat) (body : CE) | act | xat (f : Nat)
  | slc (a : CE) (l : Bool) (lo : CE) (u : Bool) (hi : CE) | lrng (two : Bool) (a b : CE)
  | disp (k v : D) | comp2 (elt : CE) (own own1 : List Nat) (tg : Tg) (it : It) (cond : CEs) (tg1 : Tg) (it1 : It) (cond1 : CEs)
  | mkx (c f : Str) (own : Bool) (e : CE) | isx (a : CE) (t : Str) | dcomp (ke ve : CE) (own : List Nat) (tg : Tg) (it : It) | hcl (i : Nat) | xis (t : Str)
  | fld (f : Str) (o : CE) | meth (m : Str) (o : CE) (es : CEs) | make (c : Nat) (es : CEs)
inductive CEs where
  | nil | cons (e : CE) (es : CEs) | star (e : CE) (es : CEs)
inductive It where
  | seq (e : CE) | rng (e : CE) | zip (st : Bool) (a b : CE) | enm (a : CE)
end
mutual
inductive CS where
  | ret (e : CE) | retN | expr (e : CE) | asg (t : Tg) (e : CE) | par (is : List Nat) (es : CEs) | sets (o i e : CE) | setF (f : Str) (o e : CE) | aug (sub : Bool) (i : Nat) (e : CE)
  | ifS (c : CE) (a b : CSs) | forS (t : Tg) (it : It) (body : CSs) | whileS (c : CE) (body : CSs)
  | raiseM (c : Nat) | raiseI (c f : Nat) (e : CE) | tryS (body : CSs) (hs : Hds) | pass | brk | cnt
inductive CSs where
  | nil | cons (s : CS) (ss : CSs)
inductive Hds where
  | nil | cons (c : Nat) (as : Option Nat) (suite : CSs) (hs : Hds)
end

/-! ### meaning -/
abbrev Env := List (Option D)
structure Cl where
  call : Nat → List D → M D
  callL : Nat → M D → M D
  callH : Nat → XV → M D
structure FD where
  thk : Bool
  np : Nat
  ns : Nat
  body : CSs
  hb : Option CSs := none
structure Pg where
  fns : List FD
  sub : Nat → Nat → Bool
  W : Nat
  inst : Nat → Bool := fun _ => false
  mth : Nat → Str → Option Nat := fun _ _ => none
  ini : Nat → Option Nat := fun _ => none
  isb : Str → Str → Option Bool := fun _ _ => none
  nam : Nat → Str := fun _ => ⟨#[]⟩
  dfl : Nat → List D := fun _ => []
  xf : Str → Str → Bool := fun _ _ => false
structure Ev where
  pg : Pg
  l : List Cl
  thk : Option (M D)
  xc : Option XV

/-- o.f of an instance -/
def isxD (pg : Pg) (t : Str) (x : D) : M D := fun h => match x with
  | .exn c _ _ => match pg.isb c t with
    | some b => .ok (.bl b) h
    | none => .bad
  | _ => .bad
def fldD (pg : Pg) (f : Str) (x : D) : M D := fun h => match x with
  | .exn c g [d] => if g = f ∧ pg.xf c f = true then .ok d h else .bad
  | .ref r => match h[r]? with
    | some (.ins c fs) => if pg.inst c = true then (match fs.lookup f with
      | some d => .ok d h
      | none => .bad) else .bad
    | _ => .bad
  | _ => .bad
def setFD (pg : Pg) (f : Str) (x v : D) : M Unit := fun h => match x with
  | .ref r => match h[r]? with
    | some (.ins c fs) => if pg.inst c = true ∧ fs.length < 900 then .ok () (h.set r (.ins c (putA f v fs))) else .bad
    | _ => .bad
  | _ => .bad
/-- which def o.m is -/
def mthD (pg : Pg) (m : Str) (x : D) : M Nat := fun h => match x with
  | .ref r => match h[r]? with
    | some (.ins c fs) => if pg.inst c = true ∧ fs.lookup m = none then (match pg.mth c m with
      | some i => .ok i h
      | none => .bad) else .bad
    | _ => .bad
  | _ => .bad
def nonOr (d v : D) : M D := match v with
  | .non => M.pure d
  | _ => M.bad

inductive Wk where
  | tup (xs : List D) | lst (r i k : Nat) | str (cs : List Nat) | rng (lo : Int) (n : Nat) | zip (st : Bool) (a b : D) (i n : Nat) | enm (a : D) (i n : Nat) | key (r i k : Nat)
def Wk.len : Wk → Nat
  | .tup xs => xs.length
  | .lst _ _ k => k
  | .str cs => cs.length
  | .rng _ n => n
  | .zip _ _ _ _ n => n
  | .enm _ _ n => n
  | .key _ _ k => k
def Wk.next (h : Hh) : Wk → Option (Option (D × Wk))
  | .tup [] => some none
  | .tup (d :: r) => some (some (d, .tup r))
  | .str [] => some none
  | .str (c :: r) => some (some (sign1 c, .str r))
  | .rng _ 0 => some none
  | .rng lo (n + 1) => some (some (.int lo, .rng (lo + 1) n))
  | .lst r i k => match seqOf h (.ref r) with
    | some ys => if ys.length = i + k then
        match k, ys[i]? with
        | 0, _ => some none
        | k + 1, some d => some (some (d, .lst r (i + 1) k))
        | _ + 1, none => none
      else none
    | none => none
  | .zip st a b i n => match seqOf h a, seqOf h b with
    | some xs, some ys => if min xs.length ys.length = i + n ∧ (st = true → xs.length = ys.length) then
        match n, xs[i]?, ys[i]? with
        | 0, _, _ => some none
        | n + 1, some x, some y => some (some (.tup [x, y], .zip st a b (i + 1) n))
        | _ + 1, _, _ => none
      else none
    | _, _ => none
  | .enm a i n => match seqOf h a with
    | some xs => if xs.length = i + n then
        match n, xs[i]? with
        | 0, _ => some none
        | n + 1, some x => some (some (.tup [.int (i : Nat), x], .enm a (i + 1) n))
        | _ + 1, none => none
      else none
    | none => none
  | .key r i k => match h[r]? with
    | some (.dct kvs) => if kvs.length = i + k then
        match k, kvs[i]? with
        | 0, _ => some none
        | k + 1, some p => some (some (p.1, .key r (i + 1) k))
        | _ + 1, none => none
      else none
    | _ => none
def wkOf (d : D) : M Wk := fun h => match d with
  | .tup xs => .ok (.tup xs) h
  | .str x => if x.length ≤ sizeLine then .ok (.str x.cps.toList) h else .bad
  | .ref r => match h[r]? with
    | some (.lst xs) => .ok (.lst r 0 xs.length) h
    | some (.dct kvs) => .ok (.key r 0 kvs.length) h
    | _ => .bad
  | _ => .bad
def wkRng (d : D) : M Wk := fun h => match d with
  | .int n => if -(2 ^ 62) ≤ n ∧ n < 2 ^ 62 then .ok (.rng 0 n.toNat) h else .bad
  | _ => .bad

def wkZip (st : Bool) (a b : D) : M Wk := fun h => match seqOf h a, seqOf h b with
  | some xs, some ys => if st = true → xs.length = ys.length then .ok (.zip st a b 0 (min xs.length ys.length)) h else .bad
  | _, _ => .bad
def wkEnm (a : D) : M Wk := fun h => match seqOf h a with
  | some xs => .ok (.enm a 0 xs.length) h
  | none => .bad
def wipeE (env : Env) : List Nat → Env
  | [] => env
  | v :: vs => (wipeE env vs).set v none
mutual
def asgT : Tg → D → Env → Option Env
  | .name i, d, env => some (env.set i (some d))
  | .tup ts, d, env => match d with
    | .tup xs => asgTs ts xs env
    | _ => none
def asgTs : Tgs → List D → Env → Option Env
  | .nil, [], env => some env
  | .cons t ts, d :: r, env => match asgT t d env with
    | some env' => asgTs ts r env'
    | none => none
  | _, _, _ => none
end
def app (r : Nat) (d : D) : M Unit := fun h => match h[r]? with
  | some (.lst xs) => if xs.length < sizeLine then .ok () (h.set r (.lst (xs ++ [d]))) else .bad
  | _ => .bad
/-- nothing is let out -/
def noX {α : Type} (m : M α) : M α := fun h => match m h with
  | .exc _ _ => .bad
  | r => r
/-- a comprehension's loop: a turn gives an item or none -/
def loopC (turn : D → M (Option D)) (r : Nat) : Nat → Wk → M Unit
  | n, wk => fun h => match wk.next h with
    | none => .bad
    | some none => .ok () h
    | some (some (d, wk')) => match n with
      | 0 => .bad
      | n + 1 => M.bind (turn d) (fun o => match o with
        | some y => M.bind (app r y) fun _ => loopC turn r n wk'
        | none => loopC turn r n wk') h

/-- an entry put into a dict -/
def putD (kvs : List (D × D)) (x : Str) (v : D) : List (D × D) :=
  if (kvs.any fun p => txIs x p.1) = true then kvs.map (fun p => if txIs x p.1 = true then (p.1, v) else p) else kvs ++ [(.str x, v)]
def putM (r : Nat) (x : Str) (v : D) : M Unit := fun h => match h[r]? with
  | some (.dcm kvs) => if kvs.length < sizeLine then .ok () (h.set r (.dcm (putD kvs x v))) else .bad
  | _ => .bad
/-- a dict is made -/
def sealM (r : Nat) : M D := fun h => match h[r]? with
  | some (.dcm kvs) => .ok (.ref r) (h.set r (.dct kvs))
  | _ => .bad
/-- a dict comprehension's loop (keys: texts) -/
def loopD (turn : D → M (Str × D)) (r : Nat) : Nat → Wk → M Unit
  | n, wk => fun h => match wk.next h with
    | none => .bad
    | some none => .ok () h
    | some (some (d, wk')) => match n with
      | 0 => .bad
      | n + 1 => M.bind (turn d) (fun p => M.bind (putM r p.1 p.2) fun _ => loopD turn r n wk') h
/-- a clause's test, by its values -/
def condG (m : M (List D)) : M Bool := M.bind m fun xs => match xs with
  | [] => M.pure true
  | [v] => tru v
  | _ => M.bad
def turnG (elt : Env → M D) (own : List Nat) (tg : Tg) (cond : Env → M (List D)) (env : Env) (v : D) : M (Option D) := noX (match asgT tg v (wipeE env own) with
  | some env' => M.bind (condG (cond env')) fun k => match k with
    | true => M.bind (elt env') fun y => M.pure (some y)
    | false => M.pure none
  | none => M.bad)
def turn2G (inner : Env → M Unit) (own : List Nat) (tg : Tg) (cond : Env → M (List D)) (env : Env) (v : D) : M (Option D) := noX (match asgT tg v (wipeE env own) with
  | some env' => M.bind (condG (cond env')) fun k => match k with
    | true => M.bind (inner env') fun _ => M.pure none
    | false => M.pure none
  | none => M.bad)
def compG (it : M Wk) (turn : Nat → D → M (Option D)) : M D := M.bind it fun wk => M.bind (alloc (.lst [])) fun d => match d with
  | .ref r => M.bind (loopC (turn r) r wk.len wk) fun _ => M.pure (.ref r)
  | _ => M.bad

mutual
def evE (ev : Ev) : CE → Env → M D
  | .slot i, env => M.opt (match env[i]? with | some (some d) => some d | _ => none)
  | .con d, _ => M.pure d
  | .bin o a b, env => M.bind (evE ev a env) fun x => M.bind (evE ev b env) fun y => binD o x y
  | .neg a, env => M.bind (evE ev a env) fun x => match x with | .int i => M.pure (.int (-i)) | _ => M.bad
  | .notE a, env => M.bind (evE ev a env) fun x => M.bind (tru x) fun k => M.pure (.bl (!k))
  | .andE a b, env => M.bind (evE ev a env) fun x => M.bind (tru x) fun k => match k with | true => evE ev b env | false => M.pure x
  | .orE a b, env => M.bind (evE ev a env) fun x => M.bind (tru x) fun k => match k with | true => M.pure x | false => evE ev b env
  | .cmp o a b, env => M.bind (evE ev a env) fun x => M.bind (evE ev b env) fun y => cmpD o x y
  | .isN a, env => M.bind (evE ev a env) fun x => M.pure (.bl (match x with | .non => true | _ => false))
  | .notN a, env => M.bind (evE ev a env) fun x => M.pure (.bl (match x with | .non => false | _ => true))
  | .chain o1 o2 a b c, env => M.bind (evE ev a env) fun x => M.bind (evE ev b env) fun y => M.bind (cmpD o1 x y) fun r => match r with
    | .bl true => M.bind (evE ev c env) fun z => cmpD o2 y z
    | .bl false => M.pure (.bl false)
    | _ => M.bad
  | .ife t a b, env => M.bind (evE ev t env) fun x => M.bind (tru x) fun k => match k with | true => evE ev a env | false => evE ev b env
  | .tup es, env => M.bind (evEs ev es env) fun xs => if xs.length ≤ sizeLine then M.pure (.tup xs) else M.bad
  | .lst es, env => M.bind (evEs ev es env) fun xs => if xs.length ≤ sizeLine then alloc (.lst xs) else M.bad
  | .edct, _ => alloc (.dct [])
  | .disp k d, _ => match k with
    | .int _ => alloc (.dct [(k, d)])
    | .str _ => alloc (.dct [(k, d)])
    | _ => M.bad
  | .idx a i, env => M.bind (evE ev a env) fun x => M.bind (evE ev i env) fun y => idxD x y
  | .rev a, env => M.bind (evE ev a env) fun x => match x with | .tup xs => M.pure (.tup xs.reverse) | _ => M.bad
  | .call f es, env => M.bind (evEs ev es env) fun xs => match ev.l with | c :: _ => c.call f xs | [] => M.bad
  | .bt b es, env => M.bind (evEs ev es env) fun xs => btD b xs
  | .bm m o es, env => M.bind (evE ev o env) fun x => M.bind (bmK m x) fun _ => M.bind (evEs ev es env) fun xs => bmD m x xs
  | .mkx c f own e, env => match own with
    | true => (match ev.l with
      | _ :: _ :: _ => M.bind (evE ev e env) fun d => M.pure (.exn c f [d])
      | _ => M.bad)
    | false => M.bind (evE ev e env) fun _ => M.pure (.exn c f [])
  | .isx a t, env => M.bind (evE ev a env) fun x => isxD ev.pg t x
  | .dcomp ke ve own tg it, env => M.bind (evI ev it env) fun wk => M.bind (alloc (.dcm [])) fun d => match d with
    | .ref r => M.bind (loopD (fun v => noX (match asgT tg v (wipeE env own) with
        | some env' => M.bind (evE ev ke env') fun k => match k with
          | .str x => M.bind (evE ev ve env') fun y => M.pure (x, y)
          | _ => M.bad
        | none => M.bad)) r wk.len wk) fun _ => sealM r
    | _ => M.bad
  | .hcl i, _ => match ev.xc, ev.l with
    | some x, c :: _ => c.callH i x
    | _, _ => M.bad
  | .xis t, _ => match ev.xc with
    | some x => isxD ev.pg t (.exn (ev.pg.nam x.cls) ⟨#[]⟩ [])
    | none => M.bad
  | .isi a t, env => M.bind (evE ev a env) fun x => fun h => match isTy h t x with | some k => .ok (.bl k) h | none => .bad
  | .comp elt own tg it cond, env => M.bind (evI ev it env) fun wk => M.bind (alloc (.lst [])) fun d => match d with
    | .ref r => M.bind (loopC (fun v => noX (match asgT tg v (wipeE env own) with
        | some env' => M.bind (match cond with
            | .nil => M.pure true
            | .cons c _ => M.bind (evE ev c env') tru
            | .star _ _ => M.bad) fun k => match k with
          | true => M.bind (evE ev elt env') fun y => M.pure (some y)
          | false => M.pure none
        | none => M.bad)) r wk.len wk) fun _ => M.pure (.ref r)
    | _ => M.bad
  | .comp2 elt own own1 tg it cond tg1 it1 cond1, env => compG (evI ev it env) fun r => turn2G (fun env2 => M.bind (evI ev it1 env2) fun wk1 => loopC (turnG (evE ev elt) own1 tg1 (evEs ev cond1) env2) r wk1.len wk1) own tg (evEs ev cond) env
  | .lam g body, env => match ev.l with
    | c :: _ :: l => c.callL g (evE { ev with l := l } body env)
    | _ => M.bad
  | .act, _ => match ev.thk with | some m => m | none => M.bad
  | .xat f, _ => match ev.xc with | some x => M.opt (x.fs.lookup f) | none => M.bad
  | .fld f o, env => M.bind (evE ev o env) (fldD ev.pg f)
  | .meth m o es, env => M.bind (evE ev o env) fun x => M.bind (mthD ev.pg m x) fun i => M.bind (evEs ev es env) fun xs => match ev.l with | c :: _ => c.call i (x :: xs) | [] => M.bad
  | .make c es, env => M.bind (evEs ev es env) fun xs => M.bind (alloc (.ins c [])) fun d => match ev.l, ev.pg.ini c with
    | _ :: k :: _, some i => M.bind (k.call i (d :: (xs ++ ev.pg.dfl i))) (nonOr d)
    | _, _ => M.bad
  | .slc a l lo u hi, env => M.bind (evE ev a env) fun x => M.bind (M.bind (evE ev lo env) (partM l)) fun i => M.bind (M.bind (evE ev hi env) (partM u)) fun j => slcD x i j
  | .lrng two a b, env => match two with
    | true => M.bind (evE ev a env) fun x => M.bind (evE ev b env) fun y => lrngM x y
    | false => M.bind (evE ev b env) fun y => lrngM (.int 0) y
def evEs (ev : Ev) : CEs → Env → M (List D)
  | .nil, _ => M.pure []
  | .cons e es, env => M.bind (evE ev e env) fun x => M.bind (evEs ev es env) fun xs => M.pure (x :: xs)
  | .star e es, env => M.bind (M.bind (evE ev e env) seqM) fun xs => M.bind (evEs ev es env) fun ys => M.pure (xs ++ ys)
def evI (ev : Ev) : It → Env → M Wk
  | .seq e, env => M.bind (evE ev e env) wkOf
  | .rng e, env => M.bind (evE ev e env) wkRng
  | .zip st a b, env => M.bind (evE ev a env) fun x => M.bind (evE ev b env) fun y => wkZip st x y
  | .enm a, env => M.bind (evE ev a env) wkEnm
end

inductive SR where
  | nxt (env : Env) (h : Hh) | brk (env : Env) (h : Hh) | cnt (env : Env) (h : Hh) | ret (d : D) (h : Hh) | exc (x : XV) (env : Env) (h : Hh) | bad
def liftE {α : Type} (m : M α) (env : Env) (k : α → Hh → SR) : Hh → SR := fun h => match m h with
  | .ok a h' => k a h'
  | .exc x h' => .exc x env h'
  | .bad => .bad
def loopF (turn : D → Env → Hh → SR) : Nat → Wk → Env → Hh → SR
  | n, wk, env, h => match wk.next h with
    | none => .bad
    | some none => .nxt env h
    | some (some (d, wk')) => match n with
      | 0 => .bad
      | n + 1 => match turn d env h with
        | .nxt env' h' => loopF turn n wk' env' h'
        | .cnt env' h' => loopF turn n wk' env' h'
        | .brk env' h' => .nxt env' h'
        | r => r
def loopW (c : Env → M Bool) (turn : Env → Hh → SR) : Nat → Env → Hh → SR
  | 0, _, _ => .bad
  | n + 1, env, h => liftE (c env) env (fun k h1 => match k with
      | false => .nxt env h1
      | true => match turn env h1 with
        | .nxt env' h' => loopW c turn n env' h'
        | .cnt env' h' => loopW c turn n env' h'
        | .brk env' h' => .nxt env' h'
        | r => r) h
def setAll : List Nat → List D → Env → Option Env
  | [], [], env => some env
  | i :: is, d :: ds, env => setAll is ds (env.set i (some d))
  | _, _, _ => none
mutual
def exS (ev : Ev) : CS → Env → Hh → SR
  | .ret e, env => liftE (evE ev e env) env fun d h => .ret d h
  | .retN, _ => fun h => .ret .non h
  | .expr e, env => liftE (evE ev e env) env fun _ h => .nxt env h
  | .asg t e, env => liftE (evE ev e env) env fun d h => match asgT t d env with | some env' => .nxt env' h | none => .bad
  | .par is es, env => liftE (evEs ev es env) env fun ds h => match setAll is ds env with | some env' => .nxt env' h | none => .bad
  | .sets o i e, env => liftE (M.bind (evE ev e env) fun v => M.bind (evE ev o env) fun x => M.bind (evE ev i env) fun y => setD x y v) env fun _ h => .nxt env h
  | .setF f o e, env => liftE (M.bind (evE ev e env) fun v => M.bind (evE ev o env) fun x => setFD ev.pg f x v) env fun _ h => .nxt env h
  | .aug sub i e, env => match env[i]? with
    | some (some (.int a)) => liftE (evE ev e env) env fun d h => match d with
      | .int b => .nxt (env.set i (some (.int (if sub = true then a - b else a + b)))) h
      | _ => .bad
    | _ => fun _ => .bad
  | .ifS c a b, env => liftE (M.bind (evE ev c env) tru) env fun k h => match k with | true => exSs ev a env h | false => exSs ev b env h
  | .forS t it body, env => liftE (evI ev it env) env fun wk h => loopF (fun d env h => match asgT t d env with | some env' => exSs ev body env' h | none => .bad) wk.len wk env h
  | .whileS c body, env => loopW (fun env => M.bind (evE ev c env) tru) (fun env h => exSs ev body env h) ev.pg.W env
  | .raiseM c, env => fun h => .exc ⟨c, []⟩ env h
  | .raiseI c f e, env => match ev.l with
    | _ :: _ :: _ => liftE (evE ev e env) env fun d h => .exc ⟨c, [(f, d)]⟩ env h
    | _ => fun _ => .bad
  | .tryS body hs, env => fun h => match exSs ev body env h with
    | .exc x env' h' => exH ev hs x env' h'
    | r => r
  | .pass, env => fun h => .nxt env h
  | .brk, env => fun h => .brk env h
  | .cnt, env => fun h => .cnt env h
def exSs (ev : Ev) : CSs → Env → Hh → SR
  | .nil, env => fun h => .nxt env h
  | .cons s ss, env => fun h => match exS ev s env h with
    | .nxt env' h' => exSs ev ss env' h'
    | r => r
def exH (ev : Ev) : Hds → XV → Env → Hh → SR
  | .nil, x, env => fun h => .exc x env h
  | .cons c as suite hs, x, env => fun h => match ev.pg.sub x.cls c with
    | true => match as with
      | none => match exSs { ev with xc := some x } suite env h with
        | .exc _ _ _ => .bad
        | r => r
      | some i => match exSs { ev with xc := some x } suite (env.set i none) h with
        | .nxt env' h' => .nxt (env'.set i none) h'
        | .brk env' h' => .brk (env'.set i none) h'
        | .cnt env' h' => .cnt (env'.set i none) h'
        | .ret d h' => .ret d h'
        | .exc _ _ _ => .bad
        | .bad => .bad
    | false => exH ev hs x env h
end
def retR : SR → R D
  | .nxt _ h => .ok .non h
  | .ret d h => .ok d h
  | .exc x _ h => .exc x h
  | _ => .bad
/-- the functions at a level, over those below -/
def mkCl (pg : Pg) (l : List Cl) : Cl where
  call := fun f ds h => match pg.fns[f]? with
    | some fd => if fd.thk = false ∧ ds.length = fd.np then retR (exSs ⟨pg, l, none, none⟩ fd.body (ds.map some ++ List.replicate (fd.ns - ds.length) none) h) else .bad
    | none => .bad
  callL := fun f m h => match pg.fns[f]? with
    | some fd => if fd.thk = true then retR (exSs ⟨pg, l, some m, none⟩ fd.body (List.replicate fd.ns none) h) else .bad
    | none => .bad
  callH := fun f x h => match pg.fns[f]? with
    | some fd => match fd.hb with
      | some b => noX (fun h => retR (exSs ⟨pg, l, none, some x⟩ b (List.replicate fd.ns none) h)) h
      | none => .bad
    | none => .bad
def tabs (pg : Pg) : Nat → List Cl
  | 0 => []
  | n + 1 => mkCl pg (tabs pg n) :: tabs pg n
end MX
namespace MX
open PySem PySem.Spec PyProof.Rows L2

/-- the tuple that stands at a: tracked, or of the module's own -/
def TupAt (K : PySem.W.Frag) (H : Hp) (a : Addr) (xs : List V) : Prop :=
  H a = some (.tup xs) ∨ ∃ (o : Obj) (its : Array Value) (n : Nat), K.lookup a = some o ∧ o.cls = .type "tuple" ∧ o.data = .seq its n ∧ its.size ≤ sizeLine ∧ Vals xs its.toList
/-- the script: known to the object, or the module's own -/
def ScrAt (K : PySem.W.Frag) (H : Hp) (a : Addr) (ns : List Int) : Prop :=
  (∃ o, H a = some (.frz o (.lst (ns.map V.int)))) ∨
    ∃ (o : Obj) (its : Array Value) (n : Nat), K.lookup a = some o ∧ o.cls = .type "list" ∧ o.dict = none ∧ o.data = .seq its n ∧ its.size ≤ sizeLine ∧ Vals (ns.map V.int) its.toList
theorem TupAt.sq {K : PySem.W.Frag} {H : Hp} {a : Addr} {xs : List V} (h : TupAt K H a xs) : SqT K H a xs := by
  rcases h with h | h
  · exact .inl (.inl h)
  · exact .inr h
theorem ScrAt.sq {K : PySem.W.Frag} {H : Hp} {a : Addr} {ns : List Int} (h : ScrAt K H a ns) : SqL K H a (ns.map V.int) := by
  rcases h with ⟨o, h⟩ | h
  · exact .inl (.inr ⟨o, h⟩)
  · exact .inr h

mutual
inductive VRel (K : PySem.W.Frag) (ρ : List Addr) (H : Hp) : D → V → Prop
  | non : VRel K ρ H .non .non
  | bl (b : Bool) : VRel K ρ H (.bl b) (.bl b)
  | int (i : Int) : VRel K ρ H (.int i) (.int i)
  | str (x : Str) : VRel K ρ H (.str x) (.str x)
  | ref {r : Nat} {a : Addr} : ρ[r]? = some a → VRel K ρ H (.ref r) (.ref a)
  | tup {a : Addr} {xs : List D} {vs : List V} : TupAt K H a vs → VRels K ρ H xs vs → VRel K ρ H (.tup xs) (.ref a)
  | scr {a : Addr} {ns : List Int} : ScrAt K H a ns → VRel K ρ H (.scr ns) (.ref a)
  | exn0 {a C : Addr} {c f : Str} : PySem.W.nsIn K mainGlobals c = some (some (.ref C)) → H a = some (ExO (.ref C) a) → VRel K ρ H (.exn c f []) (.ref a)
  | exn1 {a C dd : Addr} {c f : Str} {d : D} {v : V} : PySem.W.nsIn K mainGlobals c = some (some (.ref C)) → H a = some (exo a C (some dd)) → H dd = some (exd dd [(f, v)]) → VRel K ρ H d v → VRel K ρ H (.exn c f [d]) (.ref a)
inductive VRels (K : PySem.W.Frag) (ρ : List Addr) (H : Hp) : List D → List V → Prop
  | nil : VRels K ρ H [] []
  | cons {d : D} {v : V} {ds : List D} {vs : List V} : VRel K ρ H d v → VRels K ρ H ds vs → VRels K ρ H (d :: ds) (v :: vs)
end

/-- what no operation of ours changes -/
def Sta : HO → Prop
  | .tup _ => True
  | .frz _ _ => True
  | .xd _ => True
  | .own _ => True
  | .ext _ => True
  | _ => False
structure Ext (ρ : List Addr) (H : Hp) (ρ' : List Addr) (H' : Hp) : Prop where
  app : ∃ m, ρ' = ρ ++ m
  sta : ∀ a o, Sta o → H a = some o → H' a = some o
theorem Ext.refl (ρ : List Addr) (H : Hp) : Ext ρ H ρ H := ⟨⟨[], by simp⟩, fun _ _ _ h => h⟩
theorem Ext.trans {ρ ρ1 ρ2 : List Addr} {H H1 H2 : Hp} (a : Ext ρ H ρ1 H1) (b : Ext ρ1 H1 ρ2 H2) : Ext ρ H ρ2 H2 := by
  obtain ⟨⟨m, e⟩, s⟩ := a
  obtain ⟨⟨m', e'⟩, s'⟩ := b
  exact ⟨⟨m ++ m', by rw [e', e, List.append_assoc]⟩, fun x o t h => s' x o t (s x o t h)⟩
theorem Ext.get {ρ ρ' : List Addr} {H H' : Hp} (e : Ext ρ H ρ' H') {r : Nat} {a : Addr} (h : ρ[r]? = some a) : ρ'[r]? = some a := by
  obtain ⟨⟨m, e⟩, _⟩ := e
  rw [e, List.getElem?_append_left (List.getElem?_eq_some_iff.mp h).1]
  exact h
section
variable {K : PySem.W.Frag} {ρ ρ' : List Addr} {H H' : Hp}
theorem TupAt.mono {a : Addr} {xs : List V} (e : Ext ρ H ρ' H') (h : TupAt K H a xs) : TupAt K H' a xs := by
  rcases h with h | h
  · exact .inl (e.sta _ _ trivial h)
  · exact .inr h
theorem ScrAt.mono {a : Addr} {ns : List Int} (e : Ext ρ H ρ' H') (h : ScrAt K H a ns) : ScrAt K H' a ns := by
  rcases h with ⟨o, h⟩ | h
  · exact .inl ⟨o, e.sta _ _ trivial h⟩
  · exact .inr h
mutual
theorem VRel.mono (e : Ext ρ H ρ' H') : ∀ {d : D} {v : V}, VRel K ρ H d v → VRel K ρ' H' d v
  | _, _, .non => .non
  | _, _, .bl b => .bl b
  | _, _, .int i => .int i
  | _, _, .str x => .str x
  | _, _, .ref h => .ref (e.get h)
  | _, _, .tup h r => .tup (h.mono e) (VRels.mono e r)
  | _, _, .scr h => .scr (h.mono e)
  | _, _, .exn0 g h => .exn0 g (e.sta _ _ trivial h)
  | _, _, .exn1 g h h2 r => .exn1 g (e.sta _ _ trivial h) (e.sta _ _ trivial h2) (VRel.mono e r)
theorem VRels.mono (e : Ext ρ H ρ' H') : ∀ {ds : List D} {vs : List V}, VRels K ρ H ds vs → VRels K ρ' H' ds vs
  | _, _, .nil => .nil
  | _, _, .cons a b => .cons (VRel.mono e a) (VRels.mono e b)
end
theorem VRels.length : ∀ {ds : List D} {vs : List V}, VRels K ρ H ds vs → ds.length = vs.length
  | _, _, .nil => rfl
  | _, _, .cons _ b => by rw [List.length_cons, List.length_cons, VRels.length b]
theorem VRels.append : ∀ {ds es : List D} {vs us : List V}, VRels K ρ H ds vs → VRels K ρ H es us → VRels K ρ H (ds ++ es) (vs ++ us)
  | _, _, _, _, .nil, b => b
  | _, _, _, _, .cons a r, b => .cons a (VRels.append r b)
theorem VRels.get : ∀ {ds : List D} {vs : List V} {i : Nat} {d : D}, VRels K ρ H ds vs → ds[i]? = some d → ∃ v, vs[i]? = some v ∧ VRel K ρ H d v
  | _, _, _, _, .nil, h => by simp at h
  | _, _, 0, _, .cons a _, h => by
    simp at h
    subst h
    exact ⟨_, rfl, a⟩
  | _, _, i + 1, _, .cons _ r, h => by
    obtain ⟨v, h1, h2⟩ := VRels.get (i := i) r (by simpa using h)
    exact ⟨v, by simpa using h1, h2⟩
theorem VRels.set {d : D} {v : V} (x : VRel K ρ H d v) : ∀ {ds : List D} {vs : List V} (i : Nat), VRels K ρ H ds vs → VRels K ρ H (ds.set i d) (vs.set i v)
  | _, _, _, .nil => .nil
  | _, _, 0, .cons _ r => .cons x r
  | _, _, i + 1, .cons a r => .cons a (VRels.set x i r)
theorem VRels.take : ∀ {ds : List D} {vs : List V} (n : Nat), VRels K ρ H ds vs → VRels K ρ H (ds.take n) (vs.take n)
  | _, _, 0, _ => .nil
  | _, _, _ + 1, .nil => .nil
  | _, _, n + 1, .cons a r => .cons a (VRels.take n r)
theorem VRels.drop : ∀ {ds : List D} {vs : List V} (n : Nat), VRels K ρ H ds vs → VRels K ρ H (ds.drop n) (vs.drop n)
  | _, _, 0, r => r
  | _, _, _ + 1, .nil => .nil
  | _, _, n + 1, .cons _ r => VRels.drop n r
theorem VRels.rev : ∀ {ds : List D} {vs : List V}, VRels K ρ H ds vs → VRels K ρ H ds.reverse vs.reverse
  | _, _, .nil => .nil
  | _, _, .cons a r => by
    rw [List.reverse_cons, List.reverse_cons]
    exact (VRels.rev r).append (.cons a .nil)
theorem VRels.rep {ds : List D} {vs : List V} (r : VRels K ρ H ds vs) : ∀ n, VRels K ρ H (List.replicate n ds).flatten (List.replicate n vs).flatten
  | 0 => .nil
  | n + 1 => by
    rw [List.replicate_succ, List.replicate_succ, List.flatten_cons, List.flatten_cons]
    exact r.append (VRels.rep r n)
theorem VRels.ints : ∀ {ns : List Int}, VRels K ρ H (ns.map D.int) (ns.map V.int)
  | [] => .nil
  | _ :: _ => .cons (.int _) VRels.ints
end

/-! ### objects, heaps -/
structure Lk where
  K : PySem.W.Frag
  mg : Str → Option Value
  pg : Pg
  fld : Nat → Str
  clA : Nat → Addr
  T : List (Addr × Str)
  nc : Nat
  fa : Nat → Addr
  clI : Nat → Addr
/-- keys of dicts: ints and texts -/
def keyD : Key → D
  | .inl i => .int i
  | .inr x => .str x
inductive KRels (K : PySem.W.Frag) (ρ : List Addr) (H : Hp) : List (D × D) → List (Key × V) → Prop
  | nil : KRels K ρ H [] []
  | cons {k : Key} {d : D} {v : V} {r : List (D × D)} {s : List (Key × V)} : VRel K ρ H d v → KRels K ρ H r s → KRels K ρ H ((keyD k, d) :: r) ((k, v) :: s)
theorem KRels.mono {K : PySem.W.Frag} {ρ ρ' : List Addr} {H H' : Hp} (e : Ext ρ H ρ' H') : ∀ {r : List (D × D)} {s : List (Key × V)}, KRels K ρ H r s → KRels K ρ' H' r s
  | _, _, .nil => .nil
  | _, _, .cons a b => .cons (a.mono e) (KRels.mono e b)
theorem KRels.length {K : PySem.W.Frag} {ρ : List Addr} {H : Hp} : ∀ {r : List (D × D)} {s : List (Key × V)}, KRels K ρ H r s → r.length = s.length
  | _, _, .nil => rfl
  | _, _, .cons _ b => by rw [List.length_cons, List.length_cons, KRels.length b]
inductive FRels (L : Lk) (ρ : List Addr) (H : Hp) : List (Str × D) → List (Str × V) → Prop
  | nil : FRels L ρ H [] []
  | cons {f : Str} {d : D} {v : V} {r : List (Str × D)} {s : List (Str × V)} : VRel L.K ρ H d v → FRels L ρ H r s → FRels L ρ H ((f, d) :: r) ((f, v) :: s)
theorem FRels.mono {L : Lk} {ρ ρ' : List Addr} {H H' : Hp} (e : Ext ρ H ρ' H') : ∀ {r : List (Str × D)} {s : List (Str × V)}, FRels L ρ H r s → FRels L ρ' H' r s
  | _, _, .nil => .nil
  | _, _, .cons a b => .cons (a.mono e) (FRels.mono e b)
theorem FRels.length {L : Lk} {ρ : List Addr} {H : Hp} : ∀ {r : List (Str × D)} {s : List (Str × V)}, FRels L ρ H r s → r.length = s.length
  | _, _, .nil => rfl
  | _, _, .cons _ b => by rw [List.length_cons, List.length_cons, FRels.length b]
theorem FRels.look {L : Lk} {ρ : List Addr} {H : Hp} {f : Str} : ∀ {r : List (Str × D)} {s : List (Str × V)}, FRels L ρ H r s → (r.lookup f = none → s.lookup f = none) ∧ ∀ d, r.lookup f = some d → ∃ v, s.lookup f = some v ∧ VRel L.K ρ H d v
  | _, _, .nil => ⟨fun _ => rfl, fun d h => by cases h⟩
  | (g, x) :: r, (_, y) :: s, .cons a b => by
    by_cases h : (f == g) = true
    · simp only [List.lookup, h]
      refine ⟨fun z => (by cases z), fun d z => ?_⟩
      cases z
      exact ⟨y, rfl, a⟩
    · simp only [List.lookup, h]
      exact FRels.look b
theorem FRels.put {L : Lk} {ρ : List Addr} {H : Hp} {f : Str} {d : D} {v : V} (x : VRel L.K ρ H d v) : ∀ {r : List (Str × D)} {s : List (Str × V)}, FRels L ρ H r s → FRels L ρ H (putA f d r) (putF f v s)
  | _, _, .nil => .cons x .nil
  | (g, x') :: r, (_, y) :: s, .cons a b => by
    unfold putA putF
    by_cases h : g = f
    · rw [if_pos h, if_pos h]
      exact .cons x b
    · rw [if_neg h, if_neg h]
      exact .cons a (FRels.put x b)
inductive ORel (L : Lk) (ρ : List Addr) (H : Hp) : MO → HO → Prop
  | lst {xs : List D} {vs : List V} : VRels L.K ρ H xs vs → ORel L ρ H (.lst xs) (.lst vs)
  | dct {kvs : List (D × D)} {s : List (Key × V)} {o : Obj} : KRels L.K ρ H kvs s → ORel L ρ H (.dct kvs) (.frz o (.dK s))
  | dcm {kvs : List (D × D)} {s : List (Key × V)} : KRels L.K ρ H kvs s → ORel L ρ H (.dcm kvs) (.dK s)
  | ins {c : Nat} {fs : List (Str × D)} {gs : List (Str × V)} {dx : Addr} : FRels L ρ H fs gs → ORel L ρ H (.ins c fs) (.ins (L.clI c) dx gs)
theorem ORel.mono {L : Lk} {ρ ρ' : List Addr} {H H' : Hp} (e : Ext ρ H ρ' H') {o : MO} {u : HO} (h : ORel L ρ H o u) : ORel L ρ' H' o u := by
  cases h with
  | lst h => exact .lst (h.mono e)
  | dct h => exact .dct (h.mono e)
  | dcm h => exact .dcm (h.mono e)
  | ins h => exact .ins (h.mono e)
/-- what may be changed -/
def MO.mut : MO → Bool
  | .dct _ => false
  | _ => true
theorem ORel.notSta {L : Lk} {ρ : List Addr} {H : Hp} {o : MO} {u : HO} (h : ORel L ρ H o u) (m : o.mut = true) : ¬ Sta u := by
  cases h <;> first | exact id | cases m
structure Rep (L : Lk) (ρ : List Addr) (h : Hh) (H : Hp) : Prop where
  len : ρ.length = h.length
  nd : ρ.Nodup
  obj : ∀ (r : Nat) (a : Addr) (o : MO), ρ[r]? = some a → h[r]? = some o → ∃ u, H a = some u ∧ ORel L ρ H o u
  tabs : LamX.Tabs L.T H
section
variable {L : Lk} {ρ ρ' : List Addr} {h h' : Hh} {H H' : Hp}
theorem Rep.at (R : Rep L ρ h H) {r : Nat} {o : MO} (e : h[r]? = some o) : ∃ a u, ρ[r]? = some a ∧ H a = some u ∧ ORel L ρ H o u := by
  have hl : r < ρ.length := by
    rw [R.len]
    exact (List.getElem?_eq_some_iff.mp e).1
  obtain ⟨u, h1, h2⟩ := R.obj r ρ[r] o (List.getElem?_eq_getElem hl) e
  exact ⟨_, u, List.getElem?_eq_getElem hl, h1, h2⟩
theorem Rep.there (R : Rep L ρ h H) {a : Addr} (e : a ∈ ρ) : ∃ u, H a = some u := by
  obtain ⟨r, hr, e⟩ := List.mem_iff_getElem.mp e
  have hl : r < h.length := by
    rw [← R.len]
    exact hr
  obtain ⟨u, h1, h2⟩ := R.obj r a h[r] (by rw [List.getElem?_eq_getElem hr, e]) (List.getElem?_eq_getElem hl)
  exact ⟨u, h1⟩
theorem Rep.new (R : Rep L ρ h H) {p : Addr} (n : H p = none) : p ∉ ρ := fun m => by
  obtain ⟨u, e⟩ := R.there m
  rw [n] at e
  cases e
/-- a new object that the mirror does not see (a tuple) -/
theorem ext_new {p : Addr} {u : HO} (n : H p = none) : Ext ρ H ρ (upd H p u) := ⟨⟨[], by simp⟩, fun a o _ e => by
  rw [upd_ne (ne_of_none e n)]
  exact e⟩
theorem tabs_new {T : List (Addr × Str)} (t : LamX.Tabs T H) {p : Addr} {u : HO} (n : H p = none) : LamX.Tabs T (upd H p u) := t.ext fun b o e => by
  rw [upd_ne (ne_of_none e n)]
  exact e
theorem Rep.side (R : Rep L ρ h H) {p : Addr} {u : HO} (n : H p = none) : Rep L ρ h (upd H p u) := by
  refine ⟨R.len, R.nd, fun r a o h1 h2 => ?_, tabs_new R.tabs n⟩
  obtain ⟨v, e1, e2⟩ := R.obj r a o h1 h2
  exact ⟨v, by rw [upd_ne (ne_of_none e1 n)]; exact e1, e2.mono (ext_new n)⟩
theorem ext_alloc {p : Addr} {u : HO} (n : H p = none) : Ext ρ H (ρ ++ [p]) (upd H p u) := ⟨⟨[p], rfl⟩, (ext_new (ρ := ρ) n).sta⟩
/-- a new object -/
theorem Rep.alloc (R : Rep L ρ h H) {p : Addr} {o : MO} {u : HO} (n : H p = none) (x : ORel L ρ H o u) : Rep L (ρ ++ [p]) (h ++ [o]) (upd H p u) := by
  have E : Ext ρ H (ρ ++ [p]) (upd H p u) := ext_alloc n
  refine ⟨by simp [R.len], ?_, fun r a o' h1 h2 => ?_, tabs_new R.tabs n⟩
  · rw [List.nodup_append]
    refine ⟨R.nd, by simp, fun a ha b hb => ?_⟩
    simp only [List.mem_singleton] at hb
    rintro rfl
    rw [hb] at ha
    exact R.new n ha
  · by_cases hr : r < ρ.length
    · rw [List.getElem?_append_left hr] at h1
      rw [List.getElem?_append_left (by rw [← R.len]; exact hr)] at h2
      obtain ⟨v, e1, e2⟩ := R.obj r a o' h1 h2
      exact ⟨v, by rw [upd_ne (ne_of_none e1 n)]; exact e1, e2.mono E⟩
    · rw [List.getElem?_append_right (by omega)] at h1
      rw [List.getElem?_append_right (by rw [← R.len]; omega)] at h2
      have z : r - ρ.length = 0 := by
        have := (List.getElem?_eq_some_iff.mp h1).1
        simp at this
        omega
      rw [← R.len, z] at h2
      rw [z] at h1
      simp at h1 h2
      subst h1
      subst h2
      exact ⟨u, upd_same, x.mono E⟩
/-- a change of an object -/
theorem ext_upd (R : Rep L ρ h H) {r : Nat} {a : Addr} {u : HO} {o : MO} (e : ρ[r]? = some a) (eo : h[r]? = some o) (m : o.mut = true := by rfl) : Ext ρ H ρ (upd H a u) := ⟨⟨[], by simp⟩, fun b o s hb => by
  have : b ≠ a := by
    rintro rfl
    obtain ⟨v, e1, e2⟩ := R.obj r b _ e eo
    rw [hb] at e1
    cases e1
    exact e2.notSta m s
  rw [upd_ne this]
  exact hb⟩
theorem tab_ne {T : List (Addr × Str)} (t : LamX.Tabs T H) {a : Addr} {u w : HO} (e : H a = some w) (hw : ∀ ps, w ≠ .tbl ps) (hx : ¬ Sta w) : LamX.Tabs T (upd H a u) := fun p hp => by
  obtain ⟨ps, h1, h2, h3⟩ := t p hp
  refine ⟨ps, ?_, h2, fun pos cv hc => ?_⟩
  · rw [upd_ne (ne_of h1 e fun z => hw ps z.symm)]
    exact h1
  · obtain ⟨c, e1, e2⟩ := h3 pos cv hc
    refine ⟨c, e1, ?_⟩
    have : c ≠ a := by
      rintro rfl
      rw [e] at e2
      cases e2
      exact hx trivial
    rw [upd_ne this]
    exact e2
theorem ORel.noTbl {o : MO} {u : HO} (x : ORel L ρ H o u) : ∀ ps, u ≠ .tbl ps := by
  cases x <;> exact fun ps z => HO.noConfusion z
theorem Rep.set (R : Rep L ρ h H) {r : Nat} {a : Addr} {o o' : MO} {u : HO} (e : ρ[r]? = some a) (eo : h[r]? = some o) (x : ORel L ρ H o' u) (m : o.mut = true := by rfl) : Rep L ρ (h.set r o') (upd H a u) := by
  have E : Ext ρ H ρ (upd H a u) := ext_upd R e eo m
  refine ⟨by rw [List.length_set]; exact R.len, R.nd, fun s b p h1 h2 => ?_, ?_⟩
  · by_cases hs : s = r
    · subst hs
      rw [e] at h1
      cases h1
      rw [List.getElem?_set_self (List.getElem?_eq_some_iff.mp eo).1] at h2
      cases h2
      exact ⟨u, upd_same, x.mono E⟩
    · rw [List.getElem?_set_ne (Ne.symm hs)] at h2
      obtain ⟨v, e1, e2⟩ := R.obj s b p h1 h2
      have : b ≠ a := by
        rintro rfl
        obtain ⟨p1, q1⟩ := List.getElem?_eq_some_iff.mp e
        obtain ⟨p2, q2⟩ := List.getElem?_eq_some_iff.mp h1
        exact hs ((List.getElem_inj R.nd).mp (q2.trans q1.symm))
      exact ⟨v, by rw [upd_ne this]; exact e1, e2.mono E⟩
  · obtain ⟨w, e1, e2⟩ := R.obj r a o e eo
    exact tab_ne R.tabs e1 e2.noTbl (e2.notSta m)
end

/-! ### slots -/
def ERel (K : PySem.W.Frag) (ρ : List Addr) (H : Hp) (env : Env) (σ : L2.St) : Prop :=
  env.length = σ.length ∧ ∀ (i : Nat) (d : D), env[i]? = some (some d) → ∃ v, σ[i]? = some (some v) ∧ VRel K ρ H d v
section
variable {K : PySem.W.Frag} {ρ ρ' : List Addr} {H H' : Hp} {env : Env} {σ : L2.St}
theorem ERel.mono (e : Ext ρ H ρ' H') (x : ERel K ρ H env σ) : ERel K ρ' H' env σ := ⟨x.1, fun i d h => by
  obtain ⟨v, h1, h2⟩ := x.2 i d h
  exact ⟨v, h1, h2.mono e⟩⟩
theorem ERel.set (x : ERel K ρ H env σ) {d : D} {v : V} (r : VRel K ρ H d v) (i : Nat) : ERel K ρ H (env.set i (some d)) (σ.set i (some v)) := by
  refine ⟨by simp [x.1], fun j e h => ?_⟩
  by_cases hj : i = j
  · subst hj
    by_cases hi : i < env.length
    · rw [List.getElem?_set_self hi] at h
      cases h
      exact ⟨v, by rw [List.getElem?_set_self (by rw [← x.1]; exact hi)], r⟩
    · rw [List.getElem?_eq_none (by simpa using hi)] at h
      cases h
  · rw [List.getElem?_set_ne hj] at h ⊢
    exact x.2 j e h
theorem ERel.forget (x : ERel K ρ H env σ) (i : Nat) : ERel K ρ H (env.set i none) (σ.set i none) := by
  refine ⟨by simp [x.1], fun j e h => ?_⟩
  by_cases hj : i = j
  · subst hj
    by_cases hi : i < env.length
    · rw [List.getElem?_set_self hi] at h
      cases h
    · rw [List.getElem?_eq_none (by simpa using hi)] at h
      cases h
  · rw [List.getElem?_set_ne hj] at h ⊢
    exact x.2 j e h
theorem ERel.wipe (x : ERel K ρ H env σ) : ∀ vs : List Nat, ERel K ρ H (wipeE env vs) (L2.wipe σ vs)
  | [] => x
  | v :: vs => (ERel.wipe x vs).forget v
/-- a slot's value that the mirror does not know -/
theorem ERel.unk (x : ERel K ρ H env σ) (i : Nat) (o : Option V) : ERel K ρ H (env.set i none) (σ.set i o) := by
  refine ⟨by simp [x.1], fun j e h => ?_⟩
  by_cases hj : i = j
  · subst hj
    by_cases hi : i < env.length
    · rw [List.getElem?_set_self hi] at h
      cases h
    · rw [List.getElem?_eq_none (by simpa using hi)] at h
      cases h
  · rw [List.getElem?_set_ne hj] at h ⊢
    exact x.2 j e h
end

/-! ### what a mirror's answer says -/
def XRel (L : Lk) (ρ : List Addr) (H : Hp) (x : XV) (cls : Value) (dd : Option Addr) : Prop :=
  x.cls < L.nc ∧ cls = .ref (L.clA x.cls) ∧ (∀ f d, x.fs.lookup f = some d → XfC L.K (L.clA x.cls) ∧ PySem.W.findIn L.K (.ref (L.clA x.cls)) (L.fld f) = some none ∧
    ∃ (a : Addr) (gs : List (Str × V)) (v : V), dd = some a ∧ H a = some (.xd gs) ∧ gs.lookup (L.fld f) = some v ∧ VRel L.K ρ H d v) ∧ (dd = none ∨ ∃ (a : Addr) (gs : List (Str × V)), dd = some a ∧ H a = some (.xd gs))
theorem XRel.mono {L : Lk} {ρ ρ' : List Addr} {H H' : Hp} (e : Ext ρ H ρ' H') {x : XV} {cls : Value} {dd : Option Addr} (h : XRel L ρ H x cls dd) : XRel L ρ' H' x cls dd :=
  ⟨h.1, h.2.1, fun f d n => by
    obtain ⟨e1, e2, a, gs, v, e3, e4, e5, e6⟩ := h.2.2.1 f d n
    exact ⟨e1, e2, a, gs, v, e3, e.sta _ _ trivial e4, e5, e6.mono e⟩, h.2.2.2.imp id fun ⟨a, gs, e1, e2⟩ => ⟨a, gs, e1, e.sta _ _ trivial e2⟩⟩
section
variable (L : Lk) {α β γ δ : Type}
def res (P : List Addr → Hp → α → β → Prop) (ρ : List Addr) (H : Hp) (r : R α) (Q : β → Hp → Prop) (W : Value → Option Addr → Hp → Prop) : Prop := match r with
  | .ok a h' => ∀ ρ' H' b, Ext ρ H ρ' H' → Rep L ρ' h' H' → P ρ' H' a b → Q b H'
  | .exc x h' => ∀ ρ' H' cls dd, Ext ρ H ρ' H' → Rep L ρ' h' H' → XRel L ρ' H' x cls dd → W cls dd H'
  | .bad => False
variable {L} {P : List Addr → Hp → α → β → Prop} {P' : List Addr → Hp → γ → δ → Prop} {ρ ρ' : List Addr} {H H' : Hp} {Q : β → Hp → Prop} {Q' : δ → Hp → Prop} {W : Value → Option Addr → Hp → Prop}
theorem res.mono {r : R α} {Q2 : β → Hp → Prop} (h : res L P ρ H r Q W) (k : ∀ b H, Q b H → Q2 b H) : res L P ρ H r Q2 W := by
  cases r with
  | ok a h' => exact fun ρ' H' b e R p => k _ _ (h ρ' H' b e R p)
  | exc x h' => exact h
  | bad => exact h
theorem res.later {r : R α} (e : Ext ρ H ρ' H') (h : res L P ρ H r Q W) : res L P ρ' H' r Q W := by
  cases r with
  | ok a h' => exact fun ρ' H' b e' R p => h ρ' H' b (e.trans e') R p
  | exc x h' => exact fun ρ' H' c d e' R p => h ρ' H' c d (e.trans e') R p
  | bad => exact h
theorem res.bind {m : M α} {f : α → M γ} {h : Hh} (x : res L P' ρ H (M.bind m f h) Q' W) :
    res L P ρ H (m h) (fun b H1 => ∃ ρ1 h1 a, Ext ρ H ρ1 H1 ∧ Rep L ρ1 h1 H1 ∧ P ρ1 H1 a b ∧ res L P' ρ1 H1 (f a h1) Q' W) W := by
  unfold M.bind at x
  cases e : m h with
  | ok a h' =>
    rw [e] at x
    exact fun ρ' H' b e' R p => ⟨ρ', h', a, e', R, p, x.later e'⟩
  | exc y h' =>
    rw [e] at x
    exact x
  | bad =>
    rw [e] at x
    exact x
theorem res.ret {a : α} {h : Hh} {b : β} (R : Rep L ρ h H) (p : P ρ H a b) (x : res L P ρ H (.ok a h) Q W) : Q b H := x ρ H b (Ext.refl _ _) R p
end
/-- a point: what some slots hold, a state that is past -/
structure Pn where
  pv : List (Nat × V)
  ρ0 : List Addr
  H0 : Hp
def Pn.free : Pn := ⟨[], [], fun _ => none⟩
def Pins (p : Pn) (σ : L2.St) : Prop := ∀ q ∈ p.pv, σ[q.1]? = some (some q.2)
def Past (p : Pn) (ρ : List Addr) (H : Hp) : Prop := Ext p.ρ0 p.H0 ρ H
theorem Past.free (ρ : List Addr) (H : Hp) : Past Pn.free ρ H := ⟨⟨ρ, rfl⟩, fun _ _ _ e => by cases e⟩
theorem Pins.free (σ : L2.St) : Pins Pn.free σ := fun _ h => by cases h
theorem Pins.set {p : Pn} {σ : L2.St} (h : Pins p σ) {i : Nat} {o : Option V} (n : i ∉ p.pv.map (·.1)) : Pins p (σ.set i o) := fun q hq => by
  have : i ≠ q.1 := fun e => n (List.mem_map.mpr ⟨q, hq, e.symm⟩)
  rw [List.getElem?_set_ne this]
  exact h q hq
/-- the reading of a mirror's expression -/
def tM (L : Lk) (p : Pn) {α β : Type} (P : List Addr → Hp → α → β → Prop) (m : Env → M α) (W : WX) : L2.St → Hp → (β → Hp → Prop) → Prop := fun σ H Q =>
  Pins p σ ∧ ∃ ρ env h, Rep L ρ h H ∧ ERel L.K ρ H env σ ∧ Past p ρ H ∧ res L P ρ H (m env h) Q (fun c d H' => W c d σ H')
abbrev VR (L : Lk) : List Addr → Hp → D → V → Prop := VRel L.K
abbrev VRs (L : Lk) : List Addr → Hp → List D → List V → Prop := VRels L.K
abbrev BR : List Addr → Hp → Bool → Bool → Prop := fun _ _ a b => a = b
abbrev UR : List Addr → Hp → Unit → Unit → Prop := fun _ _ _ _ => True

/-! ### statements -/
def resS (L : Lk) (p : Pn) (ρ : List Addr) (H : Hp) (r : SR) (E : Ends) (W : WX) : Prop := match r with
  | .nxt env h => ∀ ρ' H' σ', Ext ρ H ρ' H' → Rep L ρ' h H' → ERel L.K ρ' H' env σ' → Pins p σ' → E.nx σ' H'
  | .brk env h => ∀ ρ' H' σ', Ext ρ H ρ' H' → Rep L ρ' h H' → ERel L.K ρ' H' env σ' → Pins p σ' → E.bk σ' H'
  | .cnt env h => ∀ ρ' H' σ', Ext ρ H ρ' H' → Rep L ρ' h H' → ERel L.K ρ' H' env σ' → Pins p σ' → E.ct σ' H'
  | .ret d h => ∀ ρ' H' v, Ext ρ H ρ' H' → Rep L ρ' h H' → VRel L.K ρ' H' d v → E.rt v H'
  | .exc x env h => ∀ ρ' H' σ' cls dd, Ext ρ H ρ' H' → Rep L ρ' h H' → ERel L.K ρ' H' env σ' → Pins p σ' → XRel L ρ' H' x cls dd → W cls dd σ' H'
  | .bad => False
theorem resS.later {L : Lk} {p : Pn} {ρ ρ1 : List Addr} {H H1 : Hp} {r : SR} {E : Ends} {W : WX} (e : Ext ρ H ρ1 H1) (h : resS L p ρ H r E W) : resS L p ρ1 H1 r E W := by
  cases r with
  | nxt env h' => exact fun ρ' H' σ' e' => h ρ' H' σ' (e.trans e')
  | brk env h' => exact fun ρ' H' σ' e' => h ρ' H' σ' (e.trans e')
  | cnt env h' => exact fun ρ' H' σ' e' => h ρ' H' σ' (e.trans e')
  | ret d h' => exact fun ρ' H' v e' => h ρ' H' v (e.trans e')
  | exc x env h' => exact fun ρ' H' σ' c d e' => h ρ' H' σ' c d (e.trans e')
  | bad => exact h
/-- the reading of a mirror's statement -/
def tS (L : Lk) (p : Pn) (m : Env → Hh → SR) (W : WX) : TS := fun E σ H =>
  Pins p σ ∧ ∃ ρ env h, Rep L ρ h H ∧ ERel L.K ρ H env σ ∧ Past p ρ H ∧ resS L p ρ H (m env h) E W
theorem PE.imp {X : Cx} {e : Expr} {t t' : TE} (h : PE X e t) (k : ∀ σ H Q, t' σ H Q → t σ H Q) : PE X e t' := ⟨fun pins s σ H Q I q => h.run pins s σ H Q I (k σ H Q q)⟩
theorem PT.imp {X : Cx} {e : Expr} {t t' : TT} (h : PT X e t) (k : ∀ σ H Q, t' σ H Q → t σ H Q) : PT X e t' := ⟨fun pins s σ H Q I q => h.run pins s σ H Q I (k σ H Q q)⟩
theorem PA.imp {X : Cx} {e : List Expr} {t t' : TA} (h : PA X e t) (k : ∀ σ H Q, t' σ H Q → t σ H Q) : PA X e t' := ⟨fun pos pins s σ H Q I q => h.run pos pins s σ H Q I (k σ H Q q)⟩
theorem PS.imp {X : Cx} {e : Stmt} {t t' : TS} (h : PS X e t) (k : ∀ E σ H, t' E σ H → t E σ H) : PS X e t' := ⟨fun pins s σ H E I q => h.run pins s σ H E I (k E σ H q)⟩
theorem PSs.imp {X : Cx} {e : List Stmt} {t t' : TS} (h : PSs X e t) (k : ∀ E σ H, t' E σ H → t E σ H) : PSs X e t' := ⟨fun pins s σ H E I q => h.run pins s σ H E I (k E σ H q)⟩
end MX
set_option maxHeartbeats 4000000
namespace MX
open PySem PySem.Spec PyProof.Rows L2
/-! A tuple times 1, a tuple times 0. -/
abbrev tupObj (a : Array Value) (n : Nat) (dd : Option Addr) (sl : Array (Option Value)) : Obj := { cls := .type "tuple", dict := dd, data := .seq a n, slots := sl }
theorem tup_once (l : Addr) (a : Array Value) (n : Nat) (dd : Option Addr) (sl : Array (Option Value)) (u : Tok) :
    Meets (Builtin.«tuple.__mul__» ⟨[.ref l, .int 1 u], []⟩) (fun _ R s => s.heap.get? l = some (tupObj a n dd sl) ∧ R (.ok (.ret (Value.ref l))) s) :=
  .of_wp fun prog w A R s hh => by
    obtain ⟨hp, g, d, tk, os⟩ := s
    have hl := hh.1
    have ix := AutoSeq1.idx_int
    have c1 : (a.isEmpty || (1 : Int) == 1) = true := by simp
    wp_walk using wpAny_loadPart' hl
    exact ⟨_, rfl, hh.2⟩
theorem tup_never (l : Addr) (a : Array Value) (n : Nat) (dd : Option Addr) (sl : Array (Option Value)) (u : Tok) (ha : a.isEmpty = false) :
    Meets (Builtin.«tuple.__mul__» ⟨[.ref l, .int 0 u], []⟩) (fun _ R s => s.heap.get? l = some (tupObj a n dd sl) ∧
      R (.ok (.ret (Value.ref s.heap.objs.size))) { s with heap := s.heap.push { cls := Value.type "tuple", data := Data.seq #[] }, toks := s.toks }) :=
  .of_wp fun prog w A R s hh => by
    obtain ⟨hp, g, d, tk, os⟩ := s
    have hl := hh.1
    have ix := AutoSeq1.idx_int
    wp_walk using wpAny_loadPart' hl
    exact ⟨_, rfl, hh.2⟩
def ruleOnce (K : PySem.W.Frag) : R2 := fun x y H Q => ∃ l xs, x = .ref l ∧ y = .int 1 ∧ SqT K H l xs ∧ Q (.ref l) H
def ruleNever (K : PySem.W.Frag) : R2 := fun x y H Q => ∃ l xs, x = .ref l ∧ y = .int 0 ∧ SqT K H l xs ∧ xs ≠ [] ∧ ∀ p, H p = none → Q (.ref p) (upd H p (.tup []))
section
variable {X : Cx}
theorem op_once : OpR X (binaryOp .Mult) (ruleOnce X.K) := by
  intro pins s σ H x y v u Q I rx ry h
  obtain ⟨l, xs, rfl, rfl, hT, q⟩ := h
  cases rx
  obtain ⟨t, rfl⟩ := ry
  obtain ⟨its, r, ⟨⟨c0, dd, dt, sl⟩, g, e1, n, e2⟩, _⟩ := I.tuple hT
  simp only at e1 e2
  subst e1 e2
  refine wpAny_binaryOp_repeat_ref (U := "int") (T := "tuple") (by decide) ⟨_, g, rfl⟩ (typeIs_int · 1 t) noFill_tuple_mul F.fills_int_mul F.slot_int_rmul repeat_tuple F.slot_int_index.lookup ?_
  refine call_meets F.slot_int_rmul (typeIs_int s 1 t) F.entry_int_rmul (F.args_int_rmul_2 _ _) (int_rmul_tuple 1 t l its.toArray n dd sl) ⟨g, ?_⟩
  refine ⟨rfl, ⟨_, g, rfl⟩, ?_⟩
  refine call_meets F.slot_tuple_mul ⟨_, g, rfl⟩ F.entry_tuple_mul (F.args_tuple_mul_2 _ _) (tup_once l its.toArray n dd sl t) ⟨g, ?_⟩
  exact ⟨.ref l, H, I, rfl, q⟩
theorem op_never : OpR X (binaryOp .Mult) (ruleNever X.K) := by
  intro pins s σ H x y v u Q I rx ry h
  obtain ⟨l, xs, rfl, rfl, hT, ne, q⟩ := h
  cases rx
  obtain ⟨t, rfl⟩ := ry
  obtain ⟨its, r, ⟨⟨c0, dd, dt, sl⟩, g, e1, n, e2⟩, _⟩ := I.tuple hT
  simp only at e1 e2
  subst e1 e2
  have ha : its.toArray.isEmpty = false := by
    cases its with
    | nil =>
      have := r.length
      exact absurd (List.eq_nil_of_length_eq_zero this) ne
    | cons z zs => rfl
  refine wpAny_binaryOp_repeat_ref (U := "int") (T := "tuple") (by decide) ⟨_, g, rfl⟩ (typeIs_int · 0 t) noFill_tuple_mul F.fills_int_mul F.slot_int_rmul repeat_tuple F.slot_int_index.lookup ?_
  refine call_meets F.slot_int_rmul (typeIs_int s 0 t) F.entry_int_rmul (F.args_int_rmul_2 _ _) (int_rmul_tuple 0 t l its.toArray n dd sl) ⟨g, ?_⟩
  refine ⟨rfl, ⟨_, g, rfl⟩, ?_⟩
  refine call_meets F.slot_tuple_mul ⟨_, g, rfl⟩ F.entry_tuple_mul (F.args_tuple_mul_2 _ _) (tup_never l its.toArray n dd sl t ha) ⟨g, ?_⟩
  refine ⟨.ref s.heap.objs.size, _, I.laid (t' := s.toks) (o := .tup []) (fun _ _ z => Heap.get?_push_of_some _ z) (Nat.le_refl _) ?_, rfl, q _ (I.hok.fresh (Nat.le_refl _))⟩
  exact ⟨Nat.zero_le _, [], .nil, IsTup.new _ _⟩
end
end MX
set_option maxHeartbeats 4000000
namespace MX
open PySem PySem.Spec PyProof.Rows L2
/-! The sum of a tuple of integers. -/
section
variable {prog : Program} {w : World} {A : Around} {E : Value → Shared → Prop} {s : Shared} {l : Addr} {xs : Array (Int × Tok)} {its : List Value} {ns : List Int}
theorem tup_iter {Q : Value → Shared → Prop} (hl : s.heap.IsTuple l (intItems xs))
    (h : ∀ s₂ : Shared, s₂ = { s with heap := s.heap.push { cls := .type "tuple_iterator", data := .fields #[.ref l, .int 0 0] } } → (s₂.heap.IsTupleIter s.heap.objs.size l 0 ∧ s₂.heap.IsTuple l (intItems xs)) → (∀ b ∈ [s.heap.objs.size, l], b < s₂.heap.objs.size) → l ≠ s.heap.objs.size → Q (.ref s.heap.objs.size) s₂) :
    wpAny (model prog w) A (pyIter (.ref l)) Q E s := by
  have lt : l < s.heap.objs.size := by
    obtain ⟨_, e, _⟩ := hl
    exact Heap.lt_size e
  refine wpAny_pyIter_tuple hl (h _ rfl ⟨⟨_, Heap.get?_push_size _ rfl, rfl, rfl⟩, hl.push _⟩ (fun b hb => ?_) (Nat.ne_of_lt lt))
  show b < (s.heap.push _).objs.size
  rw [Heap.size_push]
  simp only [List.mem_cons, List.not_mem_nil, or_false] at hb
  rcases hb with e | e
  · rw [e]
    exact Nat.lt_succ_self _
  · rw [e]
    exact Nat.lt_succ_of_lt lt
theorem tup_kept {h' : Heap} (hk : ∀ b o, b ∉ [s.heap.objs.size] → (s.heap.push { cls := .type "tuple_iterator", data := .fields #[.ref l, .int 0 0] }).get? b = some o → h'.get? b = some o) : ∀ b o, s.heap.get? b = some o → h'.get? b = some o := fun b o e => by
  refine hk b o (fun m => ?_) (Heap.get?_push_of_some _ e)
  simp only [List.mem_cons, List.not_mem_nil, or_false] at m
  rw [m] at e
  exact Nat.lt_irrefl _ (Heap.lt_size e)
theorem tup_sum {Q : Value → Shared → Prop} (hh : A.handled = none) (hl : s.heap.IsTuple l its.toArray) (hi : IntsAre its ns)
    (h : ∀ h' tk t', (∀ b o, s.heap.get? b = some o → h'.get? b = some o) → Q (.int ns.sum t') { s with heap := h', toks := tk }) : wpAny (model prog w) A (call (.builtin "sum") [.ref l]) Q E s := by
  obtain ⟨xs, e⟩ := hi.allInts.items
  have hn : numsOf (intItems xs).toList = ns := by
    rw [← e]
    exact hi.numsOf
  rw [nums_intItems] at hn
  rw [e] at hl
  refine call_sum_walkG (tup_iter hl fun s₂ e2 st fp ne => ?_)
  subst e2
  refine ⟨_, _, _, _, _, _, numAt xs, rfl, Walks.tuple (A := A.in1) hh _ l ne (intItems xs), st, fp, (fun _ _ => intItems_at), fun h' tk t' hk => ?_⟩
  have r := h h' tk t' (tup_kept hk)
  have : preSum (numAt xs) (intItems xs).size = ns.sum := by
    rw [preSum_eq, List.take_of_length_le (by simp [intItems]), hn]
  rw [this]
  exact r
end
section
variable {X : Cx}
def ruleSumT (K : PySem.W.Frag) : List V → Hp → VK → Prop := fun vs H Q => ∃ (a : Addr) (ns : List Int), vs = [V.ref a] ∧ SqT K H a (ns.map V.int) ∧ Q (.int ns.sum) H
theorem call_sumT (hc : X.calm = true) : CallR X (.builtin "sum") (ruleSumT X.K) := by
  intro pins s σ H vs us Q I r z
  obtain ⟨a, ns, rfl, hs, q⟩ := z
  obtain ⟨its, rv, hl, _⟩ := I.tuple hs
  rw [Vals.ref1 r]
  exact tup_sum (I.ok.hd hc) hl rv.ints fun h' tk t' hk => ⟨.int _, H, I.kept hk, ⟨_, rfl⟩, q⟩
end
end MX
set_option maxHeartbeats 1000000
namespace MX
open PySem PySem.Spec PyProof.Rows L2

/-- what of a context the values' rules ask -/
structure X0 (L : Lk) (X : Cx) : Prop where
  K : X.K = L.K
  mg : X.mg = L.mg
  un : X.A.units + 200 < cLine
  gd : X.A.guards = some []

def OpOk (L : Lk) (f : Value → Value → Sem Value) (g : D → D → M D) : Prop :=
  ∀ (X : Cx) (pins : List (Addr × Obj)) (s : Shared) (σ : L2.St) (H : Hp) (x y : V) (v u : Value) (Q : VK) (W : Value → Option Addr → Hp → Prop) (ρ : List Addr) (h : Hh) (a b : D), X0 L X → Inv X pins σ H s →
    L2.RelV x v → L2.RelV y u → Rep L ρ h H → VRel L.K ρ H a x → VRel L.K ρ H b y → res L (VR L) ρ H (g a b h) Q W → wpAny (model X.prog X.w) X.A (f v u) (EP X pins σ Q) X.xe s

section
variable {L : Lk} {ρ : List Addr} {h : Hh} {H : Hp} {Q : VK} {W : Value → Option Addr → Hp → Prop}
theorem lst_at (R : Rep L ρ h H) {r : Nat} {a : Addr} {xs : List D} (e : ρ[r]? = some a) (o : h[r]? = some (.lst xs)) : ∃ vs, H a = some (.lst vs) ∧ VRels L.K ρ H xs vs := by
  obtain ⟨u, e1, e2⟩ := R.obj r a _ e o
  cases e2 with
  | lst r => exact ⟨_, e1, r⟩
theorem dct_at (R : Rep L ρ h H) {r : Nat} {a : Addr} {xs : List (D × D)} (e : ρ[r]? = some a) (o : h[r]? = some (.dct xs)) : ∃ ob vs, H a = some (.frz ob (.dK vs)) ∧ KRels L.K ρ H xs vs := by
  obtain ⟨u, e1, e2⟩ := R.obj r a _ e o
  cases e2 with
  | dct r => exact ⟨_, _, e1, r⟩
/-- what seqOf sees -/
theorem seq_at {K : PySem.W.Frag} (hK : K = L.K) (R : Rep L ρ h H) {d : D} {v : V} {xs : List D} (x : VRel L.K ρ H d v) (e : seqOf h d = some xs) :
    ∃ a vs, v = .ref a ∧ VRels L.K ρ H xs vs ∧ (SqL K H a vs ∨ (SqT K H a vs ∧ d = .tup xs)) := by
  subst hK
  cases x with
  | non => cases e
  | bl => cases e
  | int => cases e
  | str => cases e
  | @ref r a hr =>
    simp only [seqOf] at e
    split at e
    · next ys h1 =>
      cases e
      obtain ⟨vs, e1, e2⟩ := lst_at R hr h1
      exact ⟨a, vs, rfl, e2, .inl (.of e1)⟩
    · cases e
  | tup ht hv =>
    cases e
    exact ⟨_, _, rfl, hv, .inr ⟨ht.sq, rfl⟩⟩
  | scr hs =>
    cases e
    exact ⟨_, _, rfl, VRels.ints, .inl hs.sq⟩
  | exn0 => cases e
  | exn1 => cases e
/-- a new list -/
theorem res_alloc {xs : List D} {vs : List V} (R : Rep L ρ h H) (r : VRels L.K ρ H xs vs) (x : res L (VR L) ρ H (alloc (.lst xs) h) Q W) {p : Addr} (n : H p = none) : Q (.ref p) (upd H p (.lst vs)) := by
  refine x (ρ ++ [p]) _ _ (ext_alloc n) (R.alloc n (.lst r)) (.ref ?_)
  rw [← R.len, List.getElem?_append_right (Nat.le_refl _)]
  simp
/-- a new tuple -/
theorem res_tup {xs : List D} {vs : List V} (R : Rep L ρ h H) (r : VRels L.K ρ H xs vs) (x : res L (VR L) ρ H (.ok (.tup xs) h) Q W) {p : Addr} (n : H p = none) : Q (.ref p) (upd H p (.tup vs)) :=
  x ρ _ _ (ext_new n) (R.side n) (.tup (.inl upd_same) (r.mono (ext_new n)))
end

theorem add_ok (L : Lk) : OpOk L (binaryOp .Add) addD := by
  intro X pins s σ H x y v u Q W ρ h a b hX I rx ry R ra rb q
  cases ra with
  | int i =>
    cases rb with
    | int j => exact op_add pins s σ H _ _ v u Q I rx ry ⟨i, j, rfl, rfl, q.ret R (.int _)⟩
    | _ => exact q.elim
  | str i =>
    cases rb with
    | str j =>
      simp only [addD] at q
      split at q
      · next hz => exact op_add_str pins s σ H _ _ v u Q I rx ry ⟨i, j, rfl, rfl, hz, q.ret R (.str _)⟩
      · exact q.elim
    | _ => exact q.elim
  | @tup p xs vs hx r1 =>
    cases rb with
    | @tup p' ys us hy r2 =>
      simp only [addD] at q
      split at q
      · next hz =>
        refine op_catA pins s σ H _ _ v u Q I rx ry ⟨p, p', vs, us, rfl, rfl, by rw [hX.K]; exact hx.sq, by rw [hX.K]; exact hy.sq, by rw [← r1.length, ← r2.length]; exact hz, fun e => ?_, fun _ e => ?_, fun _ _ t n => ?_⟩
        · subst e
          cases r1
          exact q.ret R (.tup hy r2)
        · subst e
          cases r2
          rw [List.append_nil] at q
          exact q.ret R (.tup hx r1)
        · exact res_tup R (r1.append r2) q n
      · exact q.elim
    | _ => exact q.elim
  | @ref r p hp =>
    cases rb with
    | @ref r' p' hp' =>
      simp only [addD] at q
      split at q
      · next xs ys e1 e2 =>
        obtain ⟨vs, h1, r1⟩ := lst_at R hp e1
        obtain ⟨us, h2, r2⟩ := lst_at R hp' e2
        split at q
        · next hz => exact op_cat pins s σ H _ _ v u Q I rx ry ⟨p, p', vs, us, rfl, rfl, h1, h2, by rw [← r1.length, ← r2.length]; exact hz, fun l n => res_alloc R (r1.append r2) q n⟩
        · exact q.elim
      · exact q.elim
    | _ => exact q.elim
  | _ => cases rb <;> exact q.elim

theorem sub_ok (L : Lk) : OpOk L (binaryOp .Sub) (binD .sub) := by
  intro X pins s σ H x y v u Q W ρ h a b hX I rx ry R ra rb q
  cases ra with
  | int i =>
    cases rb with
    | int j => exact op_sub pins s σ H _ _ v u Q I rx ry ⟨i, j, rfl, rfl, q.ret R (.int _)⟩
    | _ => exact q.elim
  | _ => cases rb <;> exact q.elim
theorem mul_ok (L : Lk) : OpOk L (binaryOp .Mult) mulD := by
  intro X pins s σ H x y v u Q W ρ h a b hX I rx ry R ra rb q
  cases ra with
  | int i =>
    cases rb with
    | int j =>
      simp only [mulD] at q
      split at q
      · next hz => exact op_mulW pins s σ H _ _ v u Q I rx ry ⟨i, j, rfl, rfl, hz, q.ret R (.int _)⟩
      · exact q.elim
    | _ => exact q.elim
  | @ref r p hp =>
    cases rb with
    | int k =>
      simp only [mulD] at q
      split at q
      · next xs e1 =>
        obtain ⟨vs, h1, r1⟩ := lst_at R hp e1
        split at q
        · next hz =>
          exact op_rep pins s σ H _ _ v u Q I rx ry ⟨p, k, vs, rfl, rfl, h1, by omega, by omega, by rw [← r1.length]; exact hz.2.2, fun l n => res_alloc R (r1.rep _) q n⟩
        · exact q.elim
      · exact q.elim
    | _ => exact q.elim
  | tup ht hv =>
    cases rb with
    | int k =>
      simp only [mulD] at q
      split at q
      · next h1 =>
        subst h1
        exact op_once pins s σ H _ _ v u Q I rx ry ⟨_, _, rfl, rfl, by rw [hX.K]; exact ht.sq, q.ret R (.tup ht hv)⟩
      split at q
      · next h0 =>
        obtain ⟨hne, h0⟩ := h0
        subst h0
        refine op_never pins s σ H _ _ v u Q I rx ry ⟨_, _, rfl, rfl, by rw [hX.K]; exact ht.sq, fun e => ?_, fun l n => res_tup R .nil q n⟩
        rw [e] at hv
        cases hv
        exact hne rfl
      split at q
      · next hz =>
        refine op_repT pins s σ H _ _ v u Q I rx ry ⟨_, k, _, rfl, rfl, by rw [hX.K]; exact ht.sq, fun e => ?_, hz.2.1, hz.2.2.1, by rw [← hv.length]; exact hz.2.2.2, fun l n => res_tup R (hv.rep _) q n⟩
        rw [e] at hv
        cases hv
        exact hz.1 rfl
      · exact q.elim
    | _ => exact q.elim
  | _ => cases rb <;> exact q.elim
theorem fdiv_ok (L : Lk) : OpOk L (binaryOp .FloorDiv) fdivD := by
  intro X pins s σ H x y v u Q W ρ h a b hX I rx ry R ra rb q
  cases ra with
  | int i =>
    cases rb with
    | int j =>
      simp only [fdivD] at q
      split at q
      · next hz => exact op_fdivW pins s σ H _ _ v u Q I rx ry ⟨i, j, rfl, rfl, hz, q.ret R (.int _)⟩
      · exact q.elim
    | _ => exact q.elim
  | _ => cases rb <;> exact q.elim
theorem mod_ok (L : Lk) : OpOk L (binaryOp .Mod) modD := by
  intro X pins s σ H x y v u Q W ρ h a b hX I rx ry R ra rb q
  cases ra with
  | int i =>
    cases rb with
    | int j =>
      simp only [modD] at q
      split at q
      · next hz => exact op_mod pins s σ H _ _ v u Q I rx ry ⟨i, j, rfl, rfl, hz, q.ret R (.int _)⟩
      · exact q.elim
    | _ => exact q.elim
  | _ => cases rb <;> exact q.elim
theorem bits_log (i : Int) : Builtin.Int.intBits i ≤ i.natAbs.log2 + 1 := by
  unfold Builtin.Int.intBits
  split <;> omega
theorem pow_ok (L : Lk) : OpOk L (binaryOp .Pow) powD := by
  intro X pins s σ H x y v u Q W ρ h a b hX I rx ry R ra rb q
  cases ra with
  | int i =>
    cases rb with
    | int j =>
      simp only [powD] at q
      split at q
      · next hz =>
        obtain ⟨t, rfl⟩ := rx
        obtain ⟨t', rfl⟩ := ry
        obtain ⟨h0, h1⟩ := hz
        refine pow_int h0 ?_ ⟨.int _, H, I.tok _, ⟨_, rfl⟩, q.ret R (.int _)⟩
        have hb := bits_log i
        have : (Builtin.Int.intBits i : Int) * j ≤ ((i.natAbs.log2 + 1 : Nat) : Int) * j := Int.mul_le_mul_of_nonneg_right (by omega) h0
        omega
      · exact q.elim
    | _ => exact q.elim
  | _ => cases rb <;> exact q.elim

/-! ### data as the library's -/
theorem optMap_len {α β : Type} {f : α → Option β} : ∀ {xs : List α} {ys : List β}, optMap f xs = some ys → ys.length = xs.length
  | [], ys, h => by
    cases h
    rfl
  | x :: xs, ys, h => by
    simp only [optMap] at h
    split at h
    · cases h
    · split at h
      · cases h
      · next y hy zs hz =>
        cases h
        rw [List.length_cons, List.length_cons, optMap_len hz]
section
variable {L : Lk} {X : Cx} {pins : List (Addr × Obj)} {σ : L2.St} {H : Hp} {s : Shared} {ρ : List Addr} {h : Hh}
theorem reads_all {k : Nat} (ih : ∀ (d : D) (x : V) (u : Value) (p : PyData), VRel L.K ρ H d x → L2.RelV x u → toP h k d = some p → ∃ as, Reads s.heap u p as ∧ DOff s.heap as) :
    ∀ (ds : List D) (xs : List V) (us : List Value) (ps : List PyData), VRels L.K ρ H ds xs → Vals xs us → optMap (toP h k) ds = some ps → ∃ as, ReadsAll s.heap us ps as ∧ DOff s.heap as
  | [], _, _, ps, .nil, .nil, e => by
    cases e
    exact ⟨_, .nil, .nil⟩
  | d :: ds, _, _, ps, .cons r rs, .cons v vs, e => by
    simp only [optMap] at e
    split at e
    · cases e
    · next y hy =>
      split at e
      · cases e
      · next zs hz =>
        cases e
        obtain ⟨as, h1, o1⟩ := ih d _ _ y r v hy
        obtain ⟨bs, h2, o2⟩ := reads_all ih ds _ _ zs rs vs hz
        exact ⟨_, .cons h1 h2, o1.app o2⟩
theorem key_val {k : Key} {u : Value} (e : keyIs k u = true) : L2.RelV (kV k) u := by
  rcases keyIs_shape e with ⟨i, t, rfl, rfl⟩ | ⟨x, t, rfl, rfl⟩
  · exact ⟨t, rfl⟩
  · exact ⟨t, rfl⟩
theorem key_rel {K : PySem.W.Frag} (k : Key) : VRel K ρ H (keyD k) (kV k) := by
  cases k with
  | inl i => exact .int i
  | inr x => exact .str x
theorem reads_kv {k : Nat} (ih : ∀ (d : D) (x : V) (u : Value) (p : PyData), VRel L.K ρ H d x → L2.RelV x u → toP h k d = some p → ∃ as, Reads s.heap u p as ∧ DOff s.heap as) {P : Program} {w : World} :
    ∀ (ds : List (D × D)) (xs : List (Key × V)) (ys : List (Key × Value)) (es : List DictEntry) (ps : List (PyData × PyData)), KRels L.K ρ H ds xs → KV xs ys → Pairs (mixKind P w) es ys →
      optMap (fun p => match toP h k p.1, toP h k p.2 with | some a, some b => some (a, b) | _, _ => none) ds = some ps → ∃ as bs, ReadsAll s.heap (es.map (·.key)) (ps.map (·.1)) as ∧ ReadsAll s.heap (es.map (·.val)) (ps.map (·.2)) bs ∧ DOff s.heap as ∧ DOff s.heap bs
  | [], _, _, _, ps, .nil, .nil, .nil, e => by
    cases e
    exact ⟨_, _, .nil, .nil, .nil, .nil⟩
  | _ :: ds, _, _, _, ps, .cons r rs, .cons c cs, .cons i v pr, e => by
    simp only [optMap] at e
    split at e
    · cases e
    · next y hy =>
      split at e
      · cases e
      · next zs hz =>
        cases e
        split at hy
        · next a b ha hb =>
          cases hy
          obtain ⟨as, bs, g1, g2, g3, g4⟩ := reads_kv ih ds _ _ _ zs rs cs pr hz
          obtain ⟨c1, c2⟩ := c
          simp only at c1 c2
          subst c1
          rw [← v] at c2
          obtain ⟨as1, f1, f3⟩ := ih _ _ _ a (key_rel _) (key_val i) ha
          obtain ⟨bs1, f2, f4⟩ := ih _ _ _ b r c2 hb
          exact ⟨_, _, .cons f1 g1, .cons f2 g2, f3.app g3, f4.app g4⟩
        · cases hy
theorem reads_of (hK : X.K = L.K) (I : Inv X pins σ H s) (R : Rep L ρ h H) : ∀ (k : Nat) (d : D) (x : V) (u : Value) (p : PyData), VRel L.K ρ H d x → L2.RelV x u → toP h k d = some p → ∃ as, Reads s.heap u p as ∧ DOff s.heap as
  | 0, _, _, _, _, _, _, e => by cases e
  | k + 1, _, _, u, p, .non, rv, e => by
    cases e
    cases rv
    exact ⟨_, .none, .nil⟩
  | k + 1, _, _, u, p, .bl b, rv, e => by
    cases e
    cases rv
    exact ⟨_, .bool b, .nil⟩
  | k + 1, _, _, u, p, .int i, rv, e => by
    cases e
    obtain ⟨t, rfl⟩ := rv
    exact ⟨_, .int i t, .nil⟩
  | k + 1, _, _, u, p, .str x, rv, e => by
    cases e
    obtain ⟨t, rfl⟩ := rv
    exact ⟨_, .str x t, .nil⟩
  | k + 1, _, _, u, p, .tup ht hv, rv, e => by
    simp only [toP] at e
    split at e
    · next ys hy =>
      cases e
      cases rv
      obtain ⟨its, r1, ⟨o, ho, hc, n, hd⟩, _⟩ := I.tuple (by rw [hK]; exact ht.sq)
      obtain ⟨as, g, f⟩ := reads_all (reads_of hK I R k) _ _ _ _ hv r1 hy
      refine ⟨_, .tuple ho hc hd (by simpa using g), ?_⟩
      first
        | exact f
        | exact f.put fun o' es n' e => (by rw [ho] at e; cases e; rw [hd]; exact fun z => (by cases z))
    · cases e
  | k + 1, _, _, u, p, .ref (r := r) (a := a) hr, rv, e => by
    simp only [toP] at e
    split at e
    · next xs hx =>
      split at e
      · next ys hy =>
        cases e
        cases rv
        obtain ⟨vs, e1, r1⟩ := lst_at R hr hx
        obtain ⟨its, r2, ⟨o, n, ho, hc, _, hd⟩, _⟩ := I.list (by rw [hK]; exact SqL.of e1)
        obtain ⟨as, g, f⟩ := reads_all (reads_of hK I R k) _ _ _ _ r1 r2 hy
        exact ⟨_, .list ho hc hd (by simpa using g), f.put fun o' es n' e => (by rw [ho] at e; cases e; rw [hd]; exact fun z => (by cases z))⟩
      · cases e
    · next kvs hx =>
      split at e
      · next ys hy =>
        cases e
        cases rv
        obtain ⟨ob, vs, e1, r1⟩ := dct_at R hr hx
        obtain ⟨_, _, hsm, us, r2, o, es, ep, ho, hc, hd, _, pr, _⟩ := (show ObjOk X.prog X.w H s.heap a (.frz ob (.dK vs)) from I.hok a _ e1)
        obtain ⟨as, bs, g1, g2, g3, g4⟩ := reads_kv (reads_of hK I R k) _ _ _ _ _ r1 r2 pr hy
        exact ⟨_, .dict ho hc.1 hd g1 g2, (g3.app g4).off hsm⟩
      · cases e
    · cases e
  | k + 1, _, _, u, p, .scr _, _, e => by cases e
  | k + 1, _, _, u, p, .exn0 _ _, _, e => by cases e
  | k + 1, _, _, u, p, .exn1 _ _ _ _, _, e => by cases e
end
theorem depth_all {k : Nat} {h : Hh} (ih : ∀ (d : D) (p : PyData), toP h k d = some p → p.depth ≤ k) : ∀ (ds : List D) (ps : List PyData), optMap (toP h k) ds = some ps → PyData.depthAll ps ≤ k
  | [], ps, e => by
    cases e
    exact Nat.zero_le _
  | d :: ds, ps, e => by
    simp only [optMap] at e
    split at e
    · cases e
    · next y hy =>
      split at e
      · cases e
      · next zs hz =>
        cases e
        simp only [PyData.depthAll]
        exact Nat.max_le.mpr ⟨ih d y hy, depth_all ih ds zs hz⟩
theorem depth_kv {k : Nat} {h : Hh} (ih : ∀ (d : D) (p : PyData), toP h k d = some p → p.depth ≤ k) : ∀ (ds : List (D × D)) (ps : List (PyData × PyData)), optMap (fun p => match toP h k p.1, toP h k p.2 with | some a, some b => some (a, b) | _, _ => none) ds = some ps → PyData.depthKv ps ≤ k
  | [], ps, e => by
    cases e
    exact Nat.zero_le _
  | d :: ds, ps, e => by
    simp only [optMap] at e
    split at e
    · cases e
    · next y hy =>
      split at e
      · cases e
      · next zs hz =>
        cases e
        split at hy
        · next a b ha hb =>
          cases hy
          simp only [PyData.depthKv]
          exact Nat.max_le.mpr ⟨Nat.max_le.mpr ⟨ih _ _ ha, ih _ _ hb⟩, depth_kv ih ds zs hz⟩
        · cases hy
theorem toP_depth (h : Hh) : ∀ (k : Nat) (d : D) (p : PyData), toP h k d = some p → p.depth ≤ k
  | 0, _, _, e => by cases e
  | k + 1, .non, p, e => by
    cases e
    exact Nat.zero_le _
  | k + 1, .bl b, p, e => by
    cases e
    exact Nat.zero_le _
  | k + 1, .int b, p, e => by
    cases e
    exact Nat.zero_le _
  | k + 1, .str b, p, e => by
    cases e
    exact Nat.zero_le _
  | k + 1, .tup xs, p, e => by
    simp only [toP] at e
    split at e
    · next ys hy =>
      cases e
      simp only [PyData.depth]
      exact Nat.succ_le_succ (depth_all (toP_depth h k) _ _ hy)
    · cases e
  | k + 1, .ref r, p, e => by
    simp only [toP] at e
    split at e
    · split at e
      · next ys hy =>
        cases e
        simp only [PyData.depth]
        exact Nat.succ_le_succ (depth_all (toP_depth h k) _ _ hy)
      · cases e
    · split at e
      · next ys hy =>
        cases e
        simp only [PyData.depth]
        exact Nat.succ_le_succ (depth_kv (toP_depth h k) _ _ hy)
      · cases e
    · cases e
  | k + 1, .scr _, p, e => by cases e
end MX
set_option maxHeartbeats 1000000
namespace MX
open PySem PySem.Spec PyProof.Rows L2

def copOp : COp → CmpOp
  | .eq => .Eq
  | .ne => .NotEq
  | .lt => .Lt
  | .le => .LtE
  | .gt => .Gt
  | .ge => .GtE
  | .isin => .In
  | .notin => .NotIn
  | .isb => .Is
  | .nib => .IsNot
section
variable {L : Lk} {X : Cx} {pins : List (Addr × Obj)} {σ : L2.St} {H : Hp} {s : Shared} {ρ : List Addr} {h : Hh} {Q : VK} {W : Value → Option Addr → Hp → Prop}
theorem eq_reads (hX : X0 L X) (I : Inv X pins σ H s) (R : Rep L ρ h H) {a b : D} {x y : V} {v u : Value} {k : Bool} (ra : VRel L.K ρ H a x) (rb : VRel L.K ρ H b y) (rx : L2.RelV x v) (ry : L2.RelV y u) (e : eqD h a b = some k) :
    ∃ p q as bs, Reads s.heap v p as ∧ Reads s.heap u q bs ∧ p.canLay0 = true ∧ q.canLay0 = true ∧ X.A.units + min p.depth q.depth < cLine ∧ k = PyData.eqv p q := by
  simp only [eqD] at e
  split at e
  · next p q hp hq =>
    split at e
    · next hc =>
      cases e
      obtain ⟨as, h1, _⟩ := reads_of hX.K I R _ _ _ _ _ ra rx hp
      obtain ⟨bs, h2, _⟩ := reads_of hX.K I R _ _ _ _ _ rb ry hq
      rw [Bool.and_eq_true] at hc
      have d1 := toP_depth h _ _ _ hp
      have d2 : min p.depth q.depth ≤ p.depth := Nat.min_le_left _ _
      have un := hX.un
      have : deep = 20 := rfl
      exact ⟨p, q, as, bs, h1, h2, hc.1, hc.2, by omega, rfl⟩
    · cases e
  · cases e
theorem any_all {k : Nat} : ∀ {ds : List D} {qs : List PyData}, optMap (toP h k) ds = some qs → PyData.depthAll qs ≤ k := fun {ds qs} e => depth_all (toP_depth h k) ds qs e
theorem in_ok (hX : X0 L X) (I : Inv X pins σ H s) (R : Rep L ρ h H) {a b : D} {x y : V} {v u : Value} {k : Bool} (ra : VRel L.K ρ H a x) (rb : VRel L.K ρ H b y) (rx : L2.RelV x v) (ry : L2.RelV y u) (e : inD h a b = some k)
    (q1 : Q (.bl k) H) : wpAny (model X.prog X.w) X.A (compareOp .In v u) (EP X pins σ Q) X.xe s := by
  have un := hX.un
  have dp : deep = 20 := rfl
  have go : ∀ ys, seqOf h b = some ys → ∀ p qs, toP h deep a = some p → optMap (toP h deep) ys = some qs → p.canLay0 = true → PyData.canLayAll0 qs = true → k = qs.any (fun q => PyData.eqv q p) → wpAny (model X.prog X.w) X.A (compareOp .In v u) (EP X pins σ Q) X.xe s := by
    intro ys hs p qs hp hq c1 c2 hk
    obtain ⟨as, r1, _⟩ := reads_of hX.K I R _ _ _ _ _ ra rx hp
    obtain ⟨t, vs, rfl, rv, sq⟩ := seq_at (K := X.K) hX.K R rb hs
    cases ry
    have d1 := toP_depth h _ _ _ hp
    have d2 : min (PyData.depthAll qs) p.depth ≤ p.depth := Nat.min_le_right _ _
    have fin : EP X pins σ Q (.bool (qs.any fun q => PyData.eqv q p)) s := ⟨.bl _, H, I, rfl, by rw [← hk]; exact q1⟩
    rcases sq with sq | ⟨sq, _⟩
    · obtain ⟨its, r2, ⟨o, n, ho, hc, _, hd⟩, _⟩ := I.list sq
      obtain ⟨bs, g, _⟩ := reads_all (reads_of hX.K I R deep) _ _ _ _ rv r2 hq
      exact SeqAt.in_list_reads (.list ho hc hd (by simpa using g)) r1 c2 c1 (by omega) fin
    · obtain ⟨its, r2, ⟨o, ho, hc, n, hd⟩, _⟩ := I.tuple sq
      obtain ⟨bs, g, _⟩ := reads_all (reads_of hX.K I R deep) _ _ _ _ rv r2 hq
      exact SeqAt.in_tuple_reads (.tuple ho hc hd (by simpa using g)) r1 c2 c1 (by omega) fin
  unfold inD at e
  split at e
  · next i j =>
    cases ra
    cases rb
    split at e
    · next c hc =>
      cases e
      have : i = ⟨#[c]⟩ := by
        obtain ⟨⟨l⟩⟩ := i
        simp only at hc
        subst hc
        rfl
      subst this
      exact op_in_sign pins s σ H _ _ v u Q I rx ry ⟨c, j, rfl, rfl, q1⟩
    · cases e
  · split at e
    · next ys hs =>
      split at e
      · next p qs hp hq =>
        split at e
        · next hc =>
          cases e
          rw [Bool.and_eq_true] at hc
          exact go ys hs p qs hp hq hc.1 hc.2 rfl
        · cases e
      · cases e
    · cases e
theorem notin_ok (hX : X0 L X) (I : Inv X pins σ H s) (R : Rep L ρ h H) {a b : D} {x y : V} {v u : Value} {k : Bool} (ra : VRel L.K ρ H a x) (rb : VRel L.K ρ H b y) (rx : L2.RelV x v) (ry : L2.RelV y u) (e : inD h a b = some k)
    (q1 : Q (.bl (!k)) H) : wpAny (model X.prog X.w) X.A (compareOp .NotIn v u) (EP X pins σ Q) X.xe s := by
  have un := hX.un
  have dp : deep = 20 := rfl
  have go : ∀ ys, seqOf h b = some ys → ∀ p qs, toP h deep a = some p → optMap (toP h deep) ys = some qs → p.canLay0 = true → PyData.canLayAll0 qs = true → k = qs.any (fun q => PyData.eqv q p) → wpAny (model X.prog X.w) X.A (compareOp .NotIn v u) (EP X pins σ Q) X.xe s := by
    intro ys hs p qs hp hq c1 c2 hk
    obtain ⟨as, r1, _⟩ := reads_of hX.K I R _ _ _ _ _ ra rx hp
    obtain ⟨t, vs, rfl, rv, sq⟩ := seq_at (K := X.K) hX.K R rb hs
    cases ry
    have d1 := toP_depth h _ _ _ hp
    have d2 : min (PyData.depthAll qs) p.depth ≤ p.depth := Nat.min_le_right _ _
    have fin : EP X pins σ Q (.bool (!qs.any fun q => PyData.eqv q p)) s := ⟨.bl _, H, I, rfl, by rw [← hk]; exact q1⟩
    rcases sq with sq | ⟨sq, _⟩
    · obtain ⟨its, r2, ⟨o, n, ho, hc, _, hd⟩, _⟩ := I.list sq
      obtain ⟨bs, g, _⟩ := reads_all (reads_of hX.K I R deep) _ _ _ _ rv r2 hq
      exact SeqAt.notIn_list_reads (.list ho hc hd (by simpa using g)) r1 c2 c1 (by omega) fin
    · obtain ⟨its, r2, ⟨o, ho, hc, n, hd⟩, _⟩ := I.tuple sq
      obtain ⟨bs, g, _⟩ := reads_all (reads_of hX.K I R deep) _ _ _ _ rv r2 hq
      exact SeqAt.notIn_tuple_reads (.tuple ho hc hd (by simpa using g)) r1 c2 c1 (by omega) fin
  unfold inD at e
  split at e
  · next i j =>
    cases ra
    cases rb
    split at e
    · next c hc =>
      cases e
      have : i = ⟨#[c]⟩ := by
        obtain ⟨⟨l⟩⟩ := i
        simp only at hc
        subst hc
        rfl
      subst this
      exact op_notIn_sign pins s σ H _ _ v u Q I rx ry ⟨c, j, rfl, rfl, q1⟩
    · cases e
  · split at e
    · next ys hs =>
      split at e
      · next p qs hp hq =>
        split at e
        · next hc =>
          cases e
          rw [Bool.and_eq_true] at hc
          exact go ys hs p qs hp hq hc.1 hc.2 rfl
        · cases e
      · cases e
    · cases e
end
theorem eqX_cases {h : Hh} {a b : D} {k : Bool} (e : eqX h a b = some k) : (∃ xs, a = .tup xs ∧ b = .tup [] ∧ k = xs.isEmpty) ∨ eqD h a b = some k := by
  unfold eqX at e
  split at e
  · next xs => exact .inl ⟨xs, rfl, rfl, (Option.some.inj e).symm⟩
  · exact .inr e
theorem cmp_ok (L : Lk) (o : COp) : OpOk L (compareOp (copOp o)) (cmpD o) := by
  intro X pins s σ H x y v u Q W ρ h a b hX I rx ry R ra rb q
  cases o with
  | eq =>
    simp only [cmpD] at q
    split at q
    · next k e =>
      rcases eqX_cases e with ⟨xs, rfl, rfl, rfl⟩ | e
      · cases ra with
        | tup ht hv =>
          cases rb with
          | tup ht' hv' =>
            cases rx
            cases ry
            have st := ht.sq
            have st' := ht'.sq
            rw [← hX.K] at st st'
            obtain ⟨its, r1, g1, _⟩ := I.tuple st
            obtain ⟨its', r2, g2, _⟩ := I.tuple st'
            cases hv'
            cases r2
            have un := hX.un
            refine PySem.SeqAt.eq_tupleAt (e := fun _ => true) g1 g2 (by omega) (fun j h1 h2 => absurd h2 (Nat.not_lt_zero j)) ⟨.bl _, H, I, rfl, ?_⟩
            have w := q.ret R (.bl _)
            have l1 := hv.length
            have l2 := r1.length
            have same : ((List.range (min its.toArray.size ([] : List Value).toArray.size)).all (fun _ => true) && its.toArray.size == ([] : List Value).toArray.size) = xs.isEmpty := by
              cases xs with
              | nil =>
                have : its = [] := List.eq_nil_of_length_eq_zero (l1.trans l2).symm
                subst this
                rfl
              | cons z zs =>
                cases its with
                | nil => exact absurd (l1.trans l2) (Nat.succ_ne_zero _)
                | cons z' zs' => simp
            rw [same]
            exact w
      obtain ⟨p, p', as, bs, r1, r2, c1, c2, un, rfl⟩ := eq_reads hX I R ra rb rx ry e
      exact SeqAt.compareEq_reads r1 r2 c1 c2 un ⟨.bl _, H, I, rfl, q.ret R (.bl _)⟩
    · exact q.elim
  | ne =>
    simp only [cmpD] at q
    split at q
    · next k e =>
      obtain ⟨p, p', as, bs, r1, r2, c1, c2, un, rfl⟩ := eq_reads hX I R ra rb rx ry e
      exact SeqAt.compareNe_reads r1 r2 c1 c2 un ⟨.bl _, H, I, rfl, q.ret R (.bl _)⟩
    · exact q.elim
  | isin =>
    simp only [cmpD] at q
    split at q
    · next k e => exact in_ok hX I R ra rb rx ry e (q.ret R (.bl _))
    · exact q.elim
  | notin =>
    simp only [cmpD] at q
    split at q
    · next k e => exact notin_ok hX I R ra rb rx ry e (q.ret R (.bl _))
    · exact q.elim
  | lt =>
    simp only [cmpD] at q
    split at q
    · next i j =>
      cases ra
      cases rb
      exact op_lt pins s σ H _ _ v u Q I rx ry ⟨i, j, rfl, rfl, q.ret R (.bl _)⟩
    · exact q.elim
  | le =>
    simp only [cmpD] at q
    split at q
    · next i j =>
      cases ra
      cases rb
      exact op_le pins s σ H _ _ v u Q I rx ry ⟨i, j, rfl, rfl, q.ret R (.bl _)⟩
    · exact q.elim
  | gt =>
    simp only [cmpD] at q
    split at q
    · next i j =>
      cases ra
      cases rb
      exact op_gt pins s σ H _ _ v u Q I rx ry ⟨i, j, rfl, rfl, q.ret R (.bl _)⟩
    · exact q.elim
  | ge =>
    simp only [cmpD] at q
    split at q
    · next i j =>
      cases ra
      cases rb
      exact op_ge pins s σ H _ _ v u Q I rx ry ⟨i, j, rfl, rfl, q.ret R (.bl _)⟩
    · exact q.elim
  | isb =>
    simp only [cmpD] at q
    split at q
    · next i j =>
      cases ra
      cases rb
      exact op_isBl pins s σ H _ _ v u Q I rx ry ⟨i, j, rfl, rfl, q.ret R (.bl _)⟩
    · exact q.elim
  | nib =>
    simp only [cmpD] at q
    split at q
    · next i j =>
      cases ra
      cases rb
      exact op_notBl pins s σ H _ _ v u Q I rx ry ⟨i, j, rfl, rfl, q.ret R (.bl _)⟩
    · exact q.elim
/-- truth -/
theorem tru_at {L : Lk} {K : PySem.W.Frag} (hK : K = L.K) {ρ : List Addr} {h : Hh} {H : Hp} (R : Rep L ρ h H) {d : D} {x : V} {k : Bool} (r : VRel L.K ρ H d x) (e : truD h d = some k) : L2.TruV K x H k := by
  subst hK
  cases r with
  | non =>
    cases e
    rfl
  | bl b =>
    cases e
    rfl
  | int i =>
    cases e
    rfl
  | str y =>
    simp only [truD] at e
    split at e
    · next hz =>
      cases e
      refine ⟨hz, ?_⟩
      cases hn : y.length with
      | zero => rfl
      | succ n =>
        show true = _
        simp
        omega
    · cases e
  | tup ht hv =>
    cases e
    refine .inr (.inl ⟨_, ht.sq, ?_⟩)
    cases hv <;> rfl
  | ref hr =>
    simp only [truD] at e
    split at e
    · next xs hx =>
      cases e
      obtain ⟨vs, e1, r1⟩ := lst_at R hr hx
      refine .inl ⟨vs, .of e1, ?_⟩
      cases r1 <;> rfl
    · cases e
  | scr hs => cases e
  | exn0 => cases e
  | exn1 => cases e
end MX
set_option maxHeartbeats 1000000
namespace MX
open PySem PySem.Spec PyProof.Rows L2

def CallOk (L : Lk) (f : Value) (g : List D → M D) : Prop :=
  ∀ (X : Cx) (pins : List (Addr × Obj)) (s : Shared) (σ : L2.St) (H : Hp) (xs : List V) (us : List Value) (Q : VK) (W : Value → Option Addr → Hp → Prop) (ρ : List Addr) (h : Hh) (ds : List D), X0 L X → X.calm = true → Inv X pins σ H s →
    Vals xs us → Rep L ρ h H → VRels L.K ρ H ds xs → res L (VR L) ρ H (g ds h) Q W → wpAny (model X.prog X.w) X.A (call f us) (EP X pins σ Q) X.xe s
/-- the like in any context -/
def CallOkH (L : Lk) (f : Value) (g : List D → M D) : Prop :=
  ∀ (X : Cx) (pins : List (Addr × Obj)) (s : Shared) (σ : L2.St) (H : Hp) (xs : List V) (us : List Value) (Q : VK) (W : Value → Option Addr → Hp → Prop) (ρ : List Addr) (h : Hh) (ds : List D), X0 L X → Inv X pins σ H s →
    Vals xs us → Rep L ρ h H → VRels L.K ρ H ds xs → res L (VR L) ρ H (g ds h) Q W → wpAny (model X.prog X.w) X.A (call f us) (EP X pins σ Q) X.xe s
theorem CallOkH.calm {L : Lk} {f : Value} {g : List D → M D} (h : CallOkH L f g) : CallOk L f g := fun X pins s σ H xs us Q W ρ hh ds hX _ I r R rs q => h X pins s σ H xs us Q W ρ hh ds hX I r R rs q
def MethOk (L : Lk) (id : String) (g : D → List D → M D) : Prop :=
  ∀ (X : Cx) (pins : List (Addr × Obj)) (s : Shared) (σ : L2.St) (H : Hp) (x : V) (v : Value) (xs : List V) (us : List Value) (Q : VK) (W : Value → Option Addr → Hp → Prop) (ρ : List Addr) (h : Hh) (d : D) (ds : List D), X0 L X → X.calm = true → Inv X pins σ H s →
    L2.RelV x v → Vals xs us → Rep L ρ h H → VRel L.K ρ H d x → VRels L.K ρ H ds xs → res L (VR L) ρ H (g d ds h) Q W → wpAny (model X.prog X.w) X.A (call (.builtin id) (v :: us)) (EP X pins σ Q) X.xe s

section
variable {L : Lk}
theorem rels1 {K : PySem.W.Frag} {ρ : List Addr} {H : Hp} {d : D} {xs : List V} (r : VRels K ρ H [d] xs) : ∃ x, xs = [x] ∧ VRel K ρ H d x := by
  cases r with
  | cons a t =>
    cases t
    exact ⟨_, rfl, a⟩
theorem rels2 {K : PySem.W.Frag} {ρ : List Addr} {H : Hp} {d e : D} {xs : List V} (r : VRels K ρ H [d, e] xs) : ∃ x y, xs = [x, y] ∧ VRel K ρ H d x ∧ VRel K ρ H e y := by
  cases r with
  | cons a t =>
    obtain ⟨y, rfl, b⟩ := rels1 t
    exact ⟨_, _, rfl, a, b⟩
theorem len_ok : CallOk L (.builtin "len") (btD .len) := by
  intro X pins s σ H xs us Q W ρ h ds hX hc I r R rs q
  match ds, rs, q with
  | [], _, q => exact q.elim
  | _ :: _ :: _, _, q => exact q.elim
  | [d], rs, q =>
    obtain ⟨x, rfl, rd⟩ := rels1 rs
    simp only [btD, bt1] at q
    split at q
    · next n e =>
      have q1 := q.ret R (.int _)
      have go : LenV X.K x H n → wpAny (model X.prog X.w) X.A (call (.builtin "len") us) (EP X pins σ Q) X.xe s := fun z => call_len pins s σ H _ us Q I r ⟨x, n, rfl, z, q1⟩
      rw [hX.K] at go
      cases rd with
      | str y =>
        simp only [lenD] at e
        split at e
        · next hz =>
          cases e
          exact go ⟨hz, rfl⟩
        · cases e
      | tup ht hv =>
        cases e
        exact go (.inr ⟨_, ht.sq, hv.length⟩)
      | scr hs =>
        cases e
        exact go (.inl ⟨_, hs.sq, by simp⟩)
      | exn0 => cases e
      | exn1 => cases e
      | @ref r a hr =>
        simp only [lenD] at e
        split at e
        · next kvs hx =>
          cases e
          obtain ⟨ob, vs, e1, r1⟩ := dct_at R hr hx
          obtain ⟨u, rfl, ru⟩ := vals1 (by assumption)
          obtain rfl : u = Value.ref a := ru
          exact d_len I (.inr ⟨ob, e1⟩) fun t s' I' => ⟨.int vs.length, H, I', ⟨t, rfl⟩, by rw [← r1.length]; exact q1⟩
        · next ys hx =>
          cases e
          obtain ⟨vs, e1, r1⟩ := lst_at R hr hx
          exact go (.inl ⟨_, .of e1, r1.length⟩)
        · cases e
      | _ => cases e
    · exact q.elim
theorem abs_ok : CallOk L (.builtin "abs") (btD .abs) := by
  intro X pins s σ H xs us Q W ρ h ds hX hc I r R rs q
  match ds, rs, q with
  | [], _, q => exact q.elim
  | _ :: _ :: _, _, q => exact q.elim
  | [d], rs, q =>
    obtain ⟨x, rfl, rd⟩ := rels1 rs
    cases rd with
    | int i => exact call_abs pins s σ H _ us Q I r ⟨i, rfl, q.ret R (.int _)⟩
    | _ => exact q.elim
theorem int_ok : CallOk L (.type "int") (btD .int) := by
  intro X pins s σ H xs us Q W ρ h ds hX hc I r R rs q
  match ds, rs, q with
  | [], _, q => exact q.elim
  | _ :: _ :: _, _, q => exact q.elim
  | [d], rs, q =>
    obtain ⟨x, rfl, rd⟩ := rels1 rs
    cases rd with
    | int i => exact call_int1 pins s σ H _ us Q I r (.inl ⟨i, rfl, q.ret R (.int _)⟩)
    | bl i => exact call_int1 pins s σ H _ us Q I r (.inr ⟨i, rfl, q.ret R (.int _)⟩)
    | _ => exact q.elim
theorem ints_at {K : PySem.W.Frag} {ρ : List Addr} {H : Hp} : ∀ {ds : List D} {vs : List V} {ns : List Int}, VRels K ρ H ds vs → intsOf ds = some ns → vs = ns.map V.int
  | [], _, ns, .nil, e => by
    cases e
    rfl
  | d :: ds, _, ns, .cons a r, e => by
    cases a with
    | int i =>
      simp only [intsOf, Option.map_eq_some_iff] at e
      obtain ⟨ms, e1, rfl⟩ := e
      rw [ints_at r e1]
      rfl
    | _ => cases e
theorem list_ints {ρ : List Addr} {h : Hh} {H : Hp} {d : D} {v : V} {ns : List Int} (R : Rep L ρ h H) (r : VRel L.K ρ H d v) (e : listInts h d = some ns) : ∃ a, v = .ref a ∧ H a = some (.lst (ns.map V.int)) := by
  cases r with
  | @ref r a hr =>
    simp only [listInts] at e
    split at e
    · next xs e1 =>
      obtain ⟨vs, e2, r2⟩ := lst_at R hr e1
      rw [ints_at r2 e] at e2
      exact ⟨a, rfl, e2⟩
    · cases e
  | _ => cases e
theorem most_max : ∀ (r : List Int) (i m : Int), r.foldl (fun i j => if j > i then j else i) i = m → (m = i ∨ m ∈ r) ∧ i ≤ m ∧ ∀ y ∈ r, y ≤ m
  | [], i, m, e => ⟨.inl (show i = m from e).symm, Int.le_of_eq (show i = m from e), fun y h => by cases h⟩
  | j :: r, i, m, e => by
    rw [List.foldl_cons] at e
    obtain ⟨a, b, c⟩ := most_max r _ m e
    refine ⟨?_, ?_, fun y hy => ?_⟩
    · rcases a with a | a
      · split at a
        · exact .inr (by rw [a]; exact List.mem_cons_self)
        · exact .inl a
      · exact .inr (List.mem_cons_of_mem _ a)
    · split at b <;> omega
    · rcases List.mem_cons.mp hy with rfl | hy
      · split at b <;> omega
      · exact c y hy
theorem most_min : ∀ (r : List Int) (i m : Int), r.foldl (fun i j => if j < i then j else i) i = m → (m = i ∨ m ∈ r) ∧ m ≤ i ∧ ∀ y ∈ r, m ≤ y
  | [], i, m, e => ⟨.inl (show i = m from e).symm, Int.le_of_eq (show i = m from e).symm, fun y h => by cases h⟩
  | j :: r, i, m, e => by
    rw [List.foldl_cons] at e
    obtain ⟨a, b, c⟩ := most_min r _ m e
    refine ⟨?_, ?_, fun y hy => ?_⟩
    · rcases a with a | a
      · split at a
        · exact .inr (by rw [a]; exact List.mem_cons_self)
        · exact .inl a
      · exact .inr (List.mem_cons_of_mem _ a)
    · split at b <;> omega
    · rcases List.mem_cons.mp hy with rfl | hy
      · split at b <;> omega
      · exact c y hy
theorem sum_ok : CallOk L (.builtin "sum") (btD .sum) := by
  intro X pins s σ H xs us Q W ρ h ds hX hc I r R rs q
  match ds, rs, q with
  | [], _, q => exact q.elim
  | _ :: _ :: _, _, q => exact q.elim
  | [d], rs, q =>
    obtain ⟨x, rfl, rd⟩ := rels1 rs
    simp only [btD, bt1] at q
    split at q
    · next ns e =>
      cases rd with
      | tup ht hv =>
        have e1 := ints_at hv e
        subst e1
        exact call_sumT hc pins s σ H _ us Q I r ⟨_, ns, rfl, by rw [hX.K]; exact ht.sq, q.ret R (.int _)⟩
      | ref hr =>
        obtain ⟨a, e0, e1⟩ := list_ints R (.ref hr) e
        cases e0
        exact cr_sum hc pins s σ H _ us Q I r ⟨_, ns, rfl, .inl (.inl e1), q.ret R (.int _)⟩
      | _ => cases e
    · exact q.elim
theorem max_ok : CallOk L (.builtin "max") (btD .max) := by
  intro X pins s σ H xs us Q W ρ h ds hX hc I r R rs q
  match ds, rs, q with
  | [], _, q => exact q.elim
  | [d], rs, q =>
    obtain ⟨x, rfl, rd⟩ := rels1 rs
    simp only [btD, extM] at q
    split at q
    · next ns e =>
      split at q
      · next m em =>
        obtain ⟨a, rfl, e1⟩ := list_ints R rd e
        cases ns with
        | nil => cases em
        | cons i l =>
          obtain ⟨k1, k2, k3⟩ := most_max l i m (Option.some.inj em)
          have h3 : ∀ y ∈ i :: l, y ≤ m := fun y hy => by
            rcases List.mem_cons.mp hy with rfl | hy
            · exact k2
            · exact k3 y hy
          have h4 : m ∈ i :: l := by
            rcases k1 with rfl | k1
            · exact List.mem_cons_self
            · exact List.mem_cons_of_mem _ k1
          refine cr_max hc pins s σ H _ us Q I r ⟨a, i :: l, rfl, .inl (.inl e1), Nat.succ_pos _, fun m' h1 h2 => ?_⟩
          have : m' = m := Int.le_antisymm (h3 m' h1) (h2 m h4)
          rw [this]
          exact q.ret R (.int _)
      · exact q.elim
    · exact q.elim
  | _ :: _ :: _ :: _, _, q => exact q.elim
  | [d, e], rs, q =>
    obtain ⟨x, y, rfl, rd, re⟩ := rels2 rs
    cases rd with
    | int i =>
      cases re with
      | int j => exact call_max2 hc pins s σ H _ us Q I r ⟨i, j, rfl, q.ret R (.int _)⟩
      | _ => exact q.elim
    | _ => cases re <;> exact q.elim
theorem min_ok : CallOk L (.builtin "min") (btD .min) := by
  intro X pins s σ H xs us Q W ρ h ds hX hc I r R rs q
  match ds, rs, q with
  | [], _, q => exact q.elim
  | [d], rs, q =>
    obtain ⟨x, rfl, rd⟩ := rels1 rs
    simp only [btD, extM] at q
    split at q
    · next ns e =>
      split at q
      · next m em =>
        obtain ⟨a, rfl, e1⟩ := list_ints R rd e
        cases ns with
        | nil => cases em
        | cons i l =>
          obtain ⟨k1, k2, k3⟩ := most_min l i m (Option.some.inj em)
          have h3 : ∀ y ∈ i :: l, m ≤ y := fun y hy => by
            rcases List.mem_cons.mp hy with rfl | hy
            · exact k2
            · exact k3 y hy
          have h4 : m ∈ i :: l := by
            rcases k1 with rfl | k1
            · exact List.mem_cons_self
            · exact List.mem_cons_of_mem _ k1
          refine cr_min hc pins s σ H _ us Q I r ⟨a, i :: l, rfl, .inl (.inl e1), Nat.succ_pos _, fun m' h1 h2 => ?_⟩
          have : m' = m := Int.le_antisymm (h2 m h4) (h3 m' h1)
          rw [this]
          exact q.ret R (.int _)
      · exact q.elim
    · exact q.elim
  | _ :: _ :: _ :: _, _, q => exact q.elim
  | [d, e], rs, q =>
    obtain ⟨x, y, rfl, rd, re⟩ := rels2 rs
    cases rd with
    | int i =>
      cases re with
      | int j => exact call_min2 hc pins s σ H _ us Q I r ⟨i, j, rfl, q.ret R (.int _)⟩
      | _ => exact q.elim
    | _ => cases re <;> exact q.elim
theorem sign_vals {x : Str} {l : List Nat} (hx : x.cps.toList = l) : ∀ (acc : List Value) (k : Nat), (∀ j v, acc[j]? = some v → ∃ c u, l[k + j]? = some c ∧ v = .str ⟨#[c]⟩ u) → acc.length + k = l.length →
    Vals ((l.drop k).map fun c => V.str ⟨#[c]⟩) acc
  | [], k, _, hl => by
    rw [List.drop_eq_nil_of_le (by simp at hl; omega)]
    exact .nil
  | v :: acc, k, h, hl => by
    obtain ⟨c, u, h1, rfl⟩ := h 0 v rfl
    have hk : k < l.length := by simp at hl; omega
    rw [List.drop_eq_getElem_cons hk]
    rw [Nat.add_zero, List.getElem?_eq_getElem hk] at h1
    cases h1
    refine .cons ⟨u, rfl⟩ (sign_vals hx acc (k + 1) (fun j v hj => ?_) (by simp at hl; omega))
    have := h (j + 1) v (by simpa using hj)
    rw [show k + (j + 1) = k + 1 + j by omega] at this
    exact this
theorem VRels.signs {K : PySem.W.Frag} {ρ : List Addr} {H : Hp} : ∀ l : List Nat, VRels K ρ H (l.map sign1) (l.map fun c => V.str ⟨#[c]⟩)
  | [] => .nil
  | c :: r => .cons (.str _) (VRels.signs r)
/-- list(d), d locked -/
def rListF : List V → Hp → VK → Prop := fun xs H Q => ∃ p ob kvs, xs = [.ref p] ∧ H p = some (.frz ob (.dK kvs)) ∧ ∀ q, H q = none → Q (.ref q) (upd H q (.lst (kvs.map fun kv => kV kv.1)))
theorem list_dF {X : Cx} (hc : X.calm = true) : CallR X (.type "list") rListF := by
  intro pins s σ H xs us Q I r h
  obtain ⟨p, ob, kvs, e, hk, q⟩ := h
  subst e
  obtain ⟨u, eu, rx⟩ := vals1 r
  subst eu
  obtain rfl : u = Value.ref p := rx
  obtain ⟨_, z, lo, vs, rk, hd⟩ := (show ObjOk X.prog X.w H s.heap p (.frz ob (.dK kvs)) from I.hok p _ hk)
  obtain ⟨ep, hat⟩ := hd.dictAt
  have hl : kvs.length = vs.length := Paired.length rk
  refine PySem.W.kdl_call (PySem.W.kdl_dict (knd := mixKind X.prog X.w) (kvs := vs) (ep := ep) lo) (I.ok.hd hc) hat (by rw [← hl]; exact z) fun h' tk acc' c' hkeep hS hacc => ?_
  have w1 : (kvs.map fun kv => kV kv.1).length ≤ sizeLine := by
    rw [List.length_map]
    exact z
  have w2 : Vals (kvs.map fun kv => kV kv.1) acc'.toList := by
    have el : acc'.toList.length = acc'.size := by simp
    refine vals_of_at (by rw [List.length_map, el, hacc.1, hl]) fun j x w h1 h2 => ?_
    obtain ⟨k, y, hky, hi⟩ := hacc.2 j w (by rw [← Array.getElem?_toList]; exact h2)
    rw [List.getElem?_map] at h1
    cases e3 : kvs[j]? with
    | none =>
      rw [e3] at h1
      cases h1
    | some kv =>
      rw [e3] at h1
      cases h1
      have e4 : vs[j]?.map (·.1) = some kv.1 := by
        have := congrArg (fun l : List Key => l[j]?) rk.keys
        simp only [List.getElem?_map, e3, Option.map_some] at this
        exact this.symm
      rw [hky] at e4
      cases e4
      exact keyIs_rel hi
  refine ⟨.ref s.heap.objs.size, upd H s.heap.objs.size (.lst (kvs.map fun kv => kV kv.1)), I.laid hkeep (Nat.le_refl _) (show ObjOk X.prog X.w _ _ _ (.lst (kvs.map fun kv => kV kv.1)) from ⟨w1, acc'.toList, c', w2, by simpa using hS⟩), rfl, q _ (I.hok.fresh (Nat.le_refl _))⟩
theorem VRels.keys {K : PySem.W.Frag} {ρ : List Addr} {H : Hp} : ∀ {kvs : List (D × D)} {s : List (Key × V)}, KRels K ρ H kvs s → VRels K ρ H (kvs.map (·.1)) (s.map fun kv => kV kv.1)
  | _, _, .nil => .nil
  | _, _, .cons (k := k) _ r => .cons (match k with | .inl i => .int i | .inr x => .str x) (VRels.keys r)
theorem list_ok : CallOk L (.type "list") (btD .list) := by
  intro X pins s σ H xs us Q W ρ h ds hX hc I r R rs q
  match ds, rs, q with
  | [], _, q => exact q.elim
  | _ :: _ :: _, _, q => exact q.elim
  | [d], rs, q =>
    obtain ⟨x, rfl, rd⟩ := rels1 rs
    have go : ∀ ys, seqOf h d = some ys → res L (VR L) ρ H (alloc (.lst ys) h) Q W → wpAny (model X.prog X.w) X.A (call (.type "list") us) (EP X pins σ Q) X.xe s := fun ys e q => by
      obtain ⟨a, vs, rfl, rv, sq⟩ := seq_at (K := X.K) hX.K R rd e
      exact call_list_of pins s σ H _ us Q I r ⟨a, vs, rfl, sq.imp id (·.1), fun l n => res_alloc R rv q n⟩
    cases rd with
    | str y =>
      simp only [btD, bt1] at q
      split at q
      · next hz =>
        obtain ⟨u, rfl, t, rfl⟩ := vals1 r
        refine call_list_str (I.ok.hd hc) y t (fun h' tk acc' c' hk hS hacc => ?_) hz
        have rv : Vals (y.cps.toList.map fun c => V.str ⟨#[c]⟩) acc'.toList := by
          have := sign_vals (x := y) rfl acc'.toList 0 (fun j v hj => by
            obtain ⟨c, u, h1, h2⟩ := hacc.2 j v (by simpa using hj)
            exact ⟨c, u, by simpa using h1, h2⟩) (by simp [hacc.1])
          simpa using this
        refine ⟨.ref s.heap.objs.size, _, I.laid (t' := tk) hk (Nat.le_refl _) (show ObjOk X.prog X.w _ h' _ (.lst (y.cps.toList.map fun c => V.str ⟨#[c]⟩)) from ⟨by simpa using hz, acc'.toList, c', rv, by simpa using hS⟩), rfl, ?_⟩
        exact res_alloc R (VRels.signs _) q (I.hok.fresh (Nat.le_refl _))
      · exact q.elim
    | tup ht hv => exact go _ rfl q
    | scr hs => exact go _ rfl q
    | exn0 => exact q.elim
    | exn1 => exact q.elim
    | @ref k a hr =>
      simp only [btD, bt1] at q
      split at q
      · next ys e => exact go ys (by simp only [seqOf, e]) q
      · next kvs hx =>
        obtain ⟨ob, vs, e1, r1⟩ := dct_at R hr hx
        exact list_dF hc pins s σ H _ us Q I (by assumption) ⟨a, ob, vs, rfl, e1, fun l n => res_alloc R (VRels.keys r1) q n⟩
      · exact q.elim
    | _ => exact q.elim
theorem sorted_ok : CallOk L (.builtin "sorted") (btD .sorted) := by
  intro X pins s σ H xs us Q W ρ h ds hX hc I r R rs q
  match ds, rs, q with
  | [], _, q => exact q.elim
  | _ :: _ :: _, _, q => exact q.elim
  | [d], rs, q =>
    obtain ⟨x, rfl, rd⟩ := rels1 rs
    cases rd with
    | @ref k a hr =>
      simp only [btD, bt1] at q
      split at q
      · next hx =>
        obtain ⟨vs, e1, r1⟩ := lst_at R hr hx
        cases r1
        refine cr_sortedS pins s σ H _ us Q I (by assumption) ⟨a, [], rfl, .of e1, by decide, fun ys p hp _ n => ?_⟩
        rw [List.perm_nil.mp hp]
        exact res_alloc (vs := []) R .nil q n
      · next y hx =>
        obtain ⟨vs, e1, r1⟩ := lst_at R hr hx
        cases r1 with
        | cons r2 r3 =>
          cases r3
          cases r2
          refine cr_sortedS pins s σ H _ us Q I (by assumption) ⟨a, [y], rfl, .of e1, by show 1 < 64; omega, fun ys p hp _ n => ?_⟩
          rw [List.perm_singleton.mp hp]
          exact res_alloc (vs := [.str y]) R (.cons (.str y) .nil) q n
      · exact q.elim
    | _ => exact q.elim
theorem tuple_ok : CallOk L (.type "tuple") (btD .tuple) := by
  intro X pins s σ H xs us Q W ρ h ds hX hc I r R rs q
  match ds, rs, q with
  | [], _, q => exact q.elim
  | _ :: _ :: _, _, q => exact q.elim
  | [d], rs, q =>
    obtain ⟨x, rfl, rd⟩ := rels1 rs
    simp only [btD, bt1] at q
    split at q
    · next ys e =>
      obtain ⟨a, vs, rfl, rv, sq⟩ := seq_at (K := X.K) hX.K R rd e
      rcases sq with sq | ⟨sq, rfl⟩
      · exact call_tuple_of pins s σ H _ us Q I r ⟨a, vs, rfl, .inl ⟨sq, fun l n => res_tup R rv q n⟩⟩
      · exact call_tuple_of pins s σ H _ us Q I r ⟨a, vs, rfl, .inr ⟨sq, q.ret R rd⟩⟩
    · exact q.elim
theorem bools_at {K : PySem.W.Frag} {ρ : List Addr} {H : Hp} : ∀ {ds : List D} {vs : List V} {bs : List Bool}, VRels K ρ H ds vs → bools ds = some bs → vs = bs.map V.bl
  | _, _, bs, .nil, e => by
    cases e
    rfl
  | d :: ds, _, bs, .cons a r, e => by
    cases a with
    | bl b =>
      simp only [bools] at e
      cases e2 : bools ds with
      | none =>
        rw [e2] at e
        cases e
      | some cs =>
        rw [e2] at e
        cases e
        rw [bools_at r e2]
        rfl
    | _ => cases e
theorem all_ok : CallOk L (.builtin "all") (btD .all) := by
  intro X pins s σ H xs us Q W ρ h ds hX hc I r R rs q
  match ds, rs, q with
  | [], _, q => exact q.elim
  | _ :: _ :: _, _, q => exact q.elim
  | [d], rs, q =>
    obtain ⟨x, rfl, rd⟩ := rels1 rs
    cases rd with
    | @ref r a hr =>
      simp only [btD, bt1] at q
      split at q
      · next ys hx =>
        split at q
        · next bs hb =>
          obtain ⟨vs, e1, r1⟩ := lst_at R hr hx
          have := bools_at r1 hb
          subst this
          exact cr_all hc pins s σ H _ us Q I (by assumption) ⟨a, bs, rfl, .of e1, q.ret R (.bl _)⟩
        · exact q.elim
      · exact q.elim
    | _ => exact q.elim
theorem repr_ok : CallOkH L (.builtin "repr") (btD .repr) := by
  intro X pins s σ H xs us Q W ρ h ds hX I r R rs q
  match ds, rs, q with
  | [], _, q => exact q.elim
  | _ :: _ :: _, _, q => exact q.elim
  | [d], rs, q =>
    obtain ⟨x, rfl, rd⟩ := rels1 rs
    simp only [btD, bt1] at q
    split at q
    · next y e =>
      simp only [reprD] at e
      split at e
      · next p hp =>
        split at e
        · next hz =>
          cases e
          rw [Bool.and_eq_true] at hz
          obtain ⟨z1, z3⟩ := hz
          have z3 := of_decide_eq_true z3
          obtain ⟨u, rfl, rx⟩ := vals1 r
          obtain ⟨as, rr, ro⟩ := reads_of hX.K I R _ _ _ _ _ rd rx hp
          have q1 := q.ret R (.str _)
          have un := hX.un
          have dp : deep = 20 := rfl
          have d1 := toP_depth h _ _ _ hp
          have big : ∀ a, u = .ref a → wpAny (model X.prog X.w) X.A (call (.builtin "repr") [u]) (EP X pins σ Q) X.xe s := fun a ea => by
            subst ea
            exact repr_any rr z1 ro hX.gd (by omega) (fun h' u' tk hk => ⟨.str _, H, I.kept (t' := tk) hk, ⟨_, rfl⟩, q1⟩) z3
          cases rd with
          | non =>
            cases rx
            cases hp
            exact PySem.P.repr_of_none ⟨.str _, H, I.tok _, ⟨_, rfl⟩, q1⟩
          | bl b =>
            cases rx
            cases hp
            exact PySem.P.repr_of_bool ⟨.str _, H, I.tok _, ⟨_, rfl⟩, by simpa only [PyData.shown] using q1⟩
          | int i =>
            obtain ⟨t, rfl⟩ := rx
            cases hp
            exact PySem.P.repr_of_int (by simpa only [PyData.showable, decide_eq_true_eq] using z1) ⟨.str _, H, I.tok _, ⟨_, rfl⟩, by simpa only [PyData.shown] using q1⟩
          | str z =>
            obtain ⟨t, rfl⟩ := rx
            cases hp
            exact PySem.P.repr_of_str ⟨.str _, H, I.tok _, ⟨_, rfl⟩, by simpa only [PyData.shown] using q1⟩ (by simpa only [PyData.shown] using z3)
          | scr hs => cases hp
          | exn0 => cases hp
          | exn1 => cases hp
          | tup ht hv =>
            cases rx
            exact big _ rfl
          | @ref r a hr =>
            cases rx
            exact big _ rfl
        · cases e
      · cases e
    · exact q.elim

/-! ### methods -/
theorem append_ok : MethOk L "list.append" (bmD .append) := by
  intro X pins s σ H x v xs us Q W ρ h d ds hX hc I rx r R rd rs q
  match ds, rs, q with
  | [], _, q => cases rd <;> exact q.elim
  | _ :: _ :: _, _, q => cases rd <;> exact q.elim
  | [e], rs, q =>
    obtain ⟨y, rfl, re⟩ := rels1 rs
    cases rd with
    | @ref r a hr =>
      simp only [bmD, bt1, bt2, appendM, insertM, joinM] at q
      split at q
      · next ys hx =>
        split at q
        · next hz =>
          obtain ⟨vs, e1, r1⟩ := lst_at R hr hx
          refine mt_append pins s σ H _ _ v us Q I rx (by assumption) ⟨a, vs, y, rfl, rfl, e1, by rw [← r1.length]; exact hz, ?_⟩
          exact q ρ _ _ (ext_upd R hr hx) (R.set hr hx (.lst (r1.append (.cons re .nil)))) .non
        · exact q.elim
      · exact q.elim
    | _ => exact q.elim
theorem pop_ok : MethOk L "list.pop" (bmD .pop) := by
  intro X pins s σ H x v xs us Q W ρ h d ds hX hc I rx r R rd rs q
  match ds, rs, q with
  | [], _, q => cases rd <;> exact q.elim
  | _ :: _ :: _, _, q => cases rd <;> exact q.elim
  | [e], rs, q =>
    obtain ⟨y, rfl, re⟩ := rels1 rs
    cases rd with
    | @ref r a hr =>
      simp only [bmD, bt1, popM] at q
      split at q
      · next ys i hx =>
        split at q
        · next k hk =>
          split at q
          · next x' hx' =>
            split at q
            · next hz =>
              obtain ⟨vs, e1, r1⟩ := lst_at R hr hx
              cases re
              obtain ⟨w, ew, rw'⟩ := r1.get hx'
              refine mt_popAt pins s σ H _ _ v us Q I rx (by assumption) ⟨a, vs, i, k, w, rfl, rfl, e1, hz.1, hz.2, by rw [← r1.length]; exact hk, ew, ?_⟩
              rw [List.eraseIdx_eq_take_drop_succ]
              exact q ρ _ _ (ext_upd R hr hx) (R.set hr hx (.lst ((r1.take _).append (r1.drop _)))) (rw'.mono (ext_upd R hr hx))
            · exact q.elim
          · exact q.elim
        · exact q.elim
      · exact q.elim
    | _ => exact q.elim
theorem extend_ok : MethOk L "list.extend" (bmD .extend) := by
  intro X pins s σ H x v xs us Q W ρ h d ds hX hc I rx r R rd rs q
  match ds, rs, q with
  | [], _, q => cases rd <;> exact q.elim
  | _ :: _ :: _, _, q => cases rd <;> exact q.elim
  | [e], rs, q =>
    obtain ⟨y, rfl, re⟩ := rels1 rs
    cases rd with
    | @ref r a hr =>
      simp only [bmD, bt1, extendM] at q
      split at q
      · next ys b hx =>
        split at q
        · next zs hb =>
          split at q
          · next hz =>
            obtain ⟨vs, e1, r1⟩ := lst_at R hr hx
            cases re with
            | ref hb' =>
              obtain ⟨ws, e2, r2⟩ := lst_at R hb' hb
              refine mt_extend pins s σ H _ _ v us Q I rx (by assumption) ⟨a, _, vs, ws, rfl, rfl, e1, e2, by rw [← r1.length, ← r2.length]; exact hz, ?_⟩
              exact q ρ _ _ (ext_upd R hr hx) (R.set hr hx (.lst (r1.append r2))) .non
          · exact q.elim
        · exact q.elim
      · exact q.elim
    | _ => exact q.elim
theorem insert_ok : MethOk L "list.insert" (bmD .insert) := by
  intro X pins s σ H x v xs us Q W ρ h d ds hX hc I rx r R rd rs q
  match ds, rs, q with
  | [], _, q => cases rd <;> exact q.elim
  | [_], _, q => cases rd <;> exact q.elim
  | _ :: _ :: _ :: _, _, q => cases rd <;> exact q.elim
  | [i, e], rs, q =>
    obtain ⟨k, y, rfl, rk, re⟩ := rels2 rs
    cases rd with
    | @ref r a hr =>
      cases rk with
      | int i =>
        simp only [bmD, bt1, bt2, appendM, insertM, joinM] at q
        split at q
        · next ys hx =>
          split at q
          · next hz =>
            obtain ⟨vs, e1, r1⟩ := lst_at R hr hx
            refine mt_insert pins s σ H _ _ v us Q I rx (by assumption) ⟨a, vs, i, y, rfl, rfl, e1, by rw [← r1.length]; exact hz.1, hz.2.1, by omega, ?_⟩
            exact q ρ _ _ (ext_upd R hr hx) (R.set hr hx (.lst (((r1.take _).append (.cons re .nil)).append (r1.drop _)))) .non
          · exact q.elim
        · exact q.elim
      | _ => exact q.elim
    | _ => cases rk <;> exact q.elim
theorem index_ok : MethOk L "list.index" (bmD .index) := by
  intro X pins s σ H x v xs us Q W ρ h d ds hX hc I rx r R rd rs q
  match ds, rs, q with
  | [], _, q => exact q.elim
  | _ :: _ :: _, _, q => exact q.elim
  | [e], rs, q =>
    obtain ⟨y, rfl, re⟩ := rels1 rs
    simp only [bmD, bt1, indexM] at q
    split at q
    · next ns k e1 =>
      split at q
      · next hk =>
        obtain ⟨a, rfl, e2⟩ := list_ints R rd e1
        cases re
        have hm : k ∈ ns := by simpa using hk
        have lt : ns.findIdx (· == k) < ns.length := List.findIdx_lt_length_of_exists ⟨k, hm, by simp⟩
        have at_ : (ns[ns.findIdx (· == k)] == k) = true := List.findIdx_getElem (p := (· == k)) (w := lt)
        have fl : (ns.map V.int).all flatV = true := by
          rw [List.all_eq_true]
          intro z hz
          obtain ⟨i, _, rfl⟩ := List.mem_map.mp hz
          rfl
        refine mt_index pins s σ H _ _ v us Q I rx (by assumption) ⟨a, ns.map V.int, .int k, ns.findIdx (· == k), .int ns[ns.findIdx (· == k)], rfl, rfl, .inl (.inl e2), rfl, fl, ?_, at_, fun m z hm hz => ?_, q.ret R (.int _)⟩
        · rw [List.getElem?_map, List.getElem?_eq_getElem lt]
          rfl
        · rw [List.getElem?_map] at hz
          have lm : m < ns.length := Nat.lt_trans hm lt
          rw [List.getElem?_eq_getElem lm] at hz
          cases hz
          have := List.not_of_lt_findIdx (p := (· == k)) hm
          simpa [eqV] using this
      · exact q.elim
    · exact q.elim
theorem strs_at {K : PySem.W.Frag} {ρ : List Addr} {H : Hp} : ∀ {ds : List D} {vs : List V} {bs : List Str}, VRels K ρ H ds vs → strsOf ds = some bs → vs = bs.map V.str
  | _, _, bs, .nil, e => by
    cases e
    rfl
  | d :: ds, _, bs, .cons a r, e => by
    cases a with
    | str b =>
      simp only [strsOf] at e
      cases e2 : strsOf ds with
      | none =>
        rw [e2] at e
        cases e
      | some cs =>
        rw [e2] at e
        cases e
        rw [strs_at r e2]
        rfl
    | _ => cases e
theorem join_ok : MethOk L "str.join" (bmD .join) := by
  intro X pins s σ H x v xs us Q W ρ h d ds hX hc I rx r R rd rs q
  match ds, rs, q with
  | [], _, q => cases rd <;> exact q.elim
  | _ :: _ :: _, _, q => cases rd <;> exact q.elim
  | [e], rs, q =>
    obtain ⟨y, rfl, re⟩ := rels1 rs
    cases rd with
    | str a =>
      simp only [bmD, bt1, bt2, appendM, insertM, joinM] at q
      split at q
      · next ys hs =>
        split at q
        · next zs hz =>
          split at q
          · next hn =>
            obtain ⟨p, vs, rfl, rv, sq⟩ := seq_at (K := X.K) hX.K R re hs
            have := strs_at rv hz
            subst this
            exact mt_join pins s σ H _ _ v us Q I rx r ⟨a, p, zs, rfl, rfl, sq.imp id (·.1), hn, q.ret R (.str _)⟩
          · exact q.elim
        · exact q.elim
      · exact q.elim
    | _ => exact q.elim

/-! ### items -/
theorem atI_rel {K : PySem.W.Frag} {ρ : List Addr} {H : Hp} {ds : List D} {vs : List V} {i : Int} {d : D} (r : VRels K ρ H ds vs) (e : atI ds i = some d) : ∃ v, atI vs i = some v ∧ VRel K ρ H d v := by
  unfold atI at e ⊢
  rw [← r.length]
  cases h : ixN ds.length i with
  | none =>
    rw [h] at e
    cases e
  | some j =>
    rw [h] at e
    exact r.get e
def ItemOk (L : Lk) : Prop :=
  ∀ (X : Cx) (value slice : Expr) (pins : List (Addr × Obj)) (s : Shared) (σ : L2.St) (H : Hp) (x y : V) (v u : Value) (Q : VK) (W : Value → Option Addr → Hp → Prop) (ρ : List Addr) (h : Hh) (a b : D), X0 L X → Inv X pins σ H s →
    L2.RelV x v → L2.RelV y u → Rep L ρ h H → VRel L.K ρ H a x → VRel L.K ρ H b y → subscripted slice false v u = operate [v, u] (getItem v u) → res L (VR L) ρ H (idxD a b h) Q W → wpAny (model X.prog X.w) X.A (subscriptTail value slice v u) (EP X pins σ Q) X.xe s
theorem dget_rel {K : PySem.W.Frag} {ρ : List Addr} {H : Hp} {x : Str} : ∀ {kvs : List (D × D)} {s : List (Key × V)}, KRels K ρ H kvs s → ∀ {d : D}, dget kvs x = some d → ∃ v, valV s (.inr x) = some v ∧ VRel K ρ H d v
  | _, _, .nil, d, e => by cases e
  | (_, d') :: r, (k, v) :: s, .cons a b, d, e => by
    have hk : txIs x (keyD k) = decide (k = .inr x) := by
      cases k with
      | inl i => rfl
      | inr y =>
        show decide (y = x) = _
        simp
    unfold dget at e
    unfold valV
    rw [List.find?_cons, hk] at e
    rw [List.find?_cons]
    cases z : decide (k = Sum.inr x) with
    | true =>
      rw [z] at e
      cases e
      exact ⟨v, rfl, a⟩
    | false =>
      rw [z] at e
      exact dget_rel b e
theorem item_ok : ItemOk L := by
  intro X value slice pins s σ H x y v u Q W ρ h a b hX I rx ry R ra rb hs q
  cases rb with
  | str z =>
    simp only [idxD] at q
    split at q
    · next r =>
      split at q
      · next kvs hx =>
        split at q
        · next d hd =>
          cases ra with
          | @ref _ p hr =>
            obtain ⟨ob, ks, e1, r1⟩ := dct_at R hr hx
            obtain ⟨w, hw, rw'⟩ := dget_rel r1 hd
            have q1 := q.ret R rw'
            have g : DGet H p (.str z) (some w) := .inl ⟨ks, .inr z, .inr ⟨ob, e1⟩, rfl, hw.symm⟩
            obtain rfl : v = Value.ref p := rx
            have hT := dict_typeIs I g
            unfold subscriptTail
            refine wpAny_bind ?_
            rw [getitemInPython_of_ne hT.not_modules]
            refine wpAny_bind (wpAny_specialOf hT PySem.F.slot_dict_getitem.lookup ?_)
            have fin : wpAny (model X.prog X.w) X.A (subscripted slice false (.ref p) u) (fun r s₃ => wpAny (model X.prog X.w) X.A (letTemporaryGo value (.ref p) r >>= fun _ => pure r) (EP X pins σ Q) X.xe s₃) X.xe s := by
              rw [hs]
              refine wpAny_operating (d_getItem ?_ I g ry fun w' s3 I3 rw2 => wpAny_bind (wpAny_letTemporaryGo (wpAny_pure ⟨w, H, I3, rw2, q1⟩)))
              have := hX.un
              omega
            first
              | exact wpAny_pure (wpAny_bind fin)
              | exact wpAny_bind (wpAny_pure (wpAny_bind fin))
              | exact wpAny_bind fin
        · exact q.elim
      · exact q.elim
    · exact q.elim
  | int k =>
    simp only [idxD] at q
    split at q
    · next xs e =>
      split at q
      · next d hd =>
        obtain ⟨p, vs, rfl, rv, sq⟩ := seq_at (K := X.K) hX.K R ra e
        obtain ⟨w, hw, rw'⟩ := atI_rel rv hd
        have q1 := q.ret R rw'
        rcases sq with sq | ⟨sq, _⟩
        · exact ix_list value slice pins s σ H _ _ v u Q I rx ry ⟨p, vs, k, w, rfl, rfl, sq, hw, q1⟩ hs
        · exact ix_tup value slice pins s σ H _ _ v u Q I rx ry ⟨p, vs, k, w, rfl, rfl, sq, hw, q1⟩ hs
      · exact q.elim
    · exact q.elim
  | _ => exact q.elim
def SetOk (L : Lk) : Prop :=
  ∀ (X : Cx) (pins : List (Addr × Obj)) (s : Shared) (σ : L2.St) (H : Hp) (o i v : V) (ov iv u : Value) (Q : Hp → Prop) (W : Value → Option Addr → Hp → Prop) (ρ : List Addr) (h : Hh) (a b d : D), X0 L X → Inv X pins σ H s →
    L2.RelV o ov → L2.RelV i iv → L2.RelV v u → Rep L ρ h H → VRel L.K ρ H a o → VRel L.K ρ H b i → VRel L.K ρ H d v → res L UR ρ H (setD a b d h) (fun _ => Q) W → wpAny (model X.prog X.w) X.A (setItem ov iv u) (fun _ s' => ∃ H', Inv X pins σ H' s' ∧ Q H') X.xe s
theorem set_ok : SetOk L := by
  intro X pins s σ H o i v ov iv u Q W ρ h a b d hX I ro ri rv R ra rb rd q
  cases ra with
  | @ref r p hr =>
    cases rb with
    | int k =>
      simp only [setD] at q
      split at q
      · next xs hx =>
        split at q
        · next j hj =>
          obtain ⟨vs, e1, r1⟩ := lst_at R hr hx
          refine set_list pins s σ H _ _ _ ov iv u Q I ro ri rv ⟨p, vs, k, j, rfl, rfl, e1, by rw [← r1.length]; exact hj, ?_⟩
          exact q ρ _ () (ext_upd R hr hx) (R.set hr hx (.lst (r1.set rd j))) trivial
        · exact q.elim
      · exact q.elim
    | _ => exact q.elim
  | _ => cases rb <;> exact q.elim

/-! ### isinstance -/
def tyN : Ty → String
  | .int => "int"
  | .bool => "bool"
  | .str => "str"
  | .tuple => "tuple"
  | .list => "list"
  | .dict => "dict"
theorem kits (K : PySem.W.Frag) (t : Ty) : PySem.W.kitOne K (.type "NoneType") (.type (tyN t)) = some false ∧ PySem.W.kitOne K (.type "bool") (.type (tyN t)) = some (t == .int || t == .bool) ∧
    PySem.W.kitOne K (.type "int") (.type (tyN t)) = some (t == .int) ∧ PySem.W.kitOne K (.type "str") (.type (tyN t)) = some (t == .str) ∧ PySem.W.kitOne K (.type "tuple") (.type (tyN t)) = some (t == .tuple) ∧
    PySem.W.kitOne K (.type "list") (.type (tyN t)) = some (t == .list) ∧ PySem.W.kitOne K (.type "dict") (.type (tyN t)) = some (t == .dict) := by
  cases t <;> exact ⟨kit_ty (by decide +kernel), kit_ty (by decide +kernel), kit_ty (by decide +kernel), kit_ty (by decide +kernel), kit_ty (by decide +kernel), kit_ty (by decide +kernel), kit_ty (by decide +kernel)⟩
theorem tup_ty {K : PySem.W.Frag} {H : Hp} {a : Addr} {xs : List V} (h : TupAt K H a xs) : TyX K H (.ref a) (.type "tuple") := by
  rcases h with h | ⟨o, its, n, h1, h2, _⟩
  · exact .base (.tup h)
  · exact .kTuple h1 h2
theorem isi_ok {X : Cx} {pins : List (Addr × Obj)} {s : Shared} {σ : L2.St} {H : Hp} {x : V} {us : List Value} {Q : VK} {ρ : List Addr} {h : Hh} {d : D} {t : Ty} {k : Bool} (hX : X0 L X) (I : Inv X pins σ H s)
    (r : Vals [x, .ty (tyN t)] us) (R : Rep L ρ h H) (rd : VRel L.K ρ H d x) (e : isTy h t d = some k) (q : Q (.bl k) H) : wpAny (model X.prog X.w) X.A (call (.builtin "isinstance") us) (EP X pins σ Q) X.xe s := by
  obtain ⟨k1, k2, k3, k4, k5, k6, k7⟩ := kits X.K t
  have go : ∀ ty, TyX X.K H x ty → PySem.W.kitOne X.K ty (.type (tyN t)) = some k → wpAny (model X.prog X.w) X.A (call (.builtin "isinstance") us) (EP X pins σ Q) X.xe s := fun ty h1 h2 =>
    call_isi pins s σ H _ us Q I r ⟨x, .ty (tyN t), ty, .type (tyN t), k, rfl, .ty _, h1, h2, q⟩
  cases rd with
  | non =>
    cases e
    exact go _ (.base .non) k1
  | bl b =>
    cases e
    exact go _ (.base (.bl b)) k2
  | int b =>
    cases e
    exact go _ (.base (.int b)) k3
  | str b =>
    cases e
    exact go _ (.base (.str b)) k4
  | tup ht hv =>
    cases e
    exact go _ (tup_ty (by rw [hX.K]; exact ht)) k5
  | scr => cases e
  | exn0 => cases e
  | exn1 => cases e
  | ref hr =>
    simp only [isTy] at e
    split at e
    · next xs hx =>
      cases e
      obtain ⟨vs, e1, r1⟩ := lst_at R hr hx
      exact go _ (.base (.lst e1)) k6
    · next kvs hx =>
      cases e
      obtain ⟨ob, vs, e1, r1⟩ := dct_at R hr hx
      exact go _ (.fDict e1) k7
    · cases e
end
end MX
set_option maxHeartbeats 1000000
/-! From the text's own syntax to the small one. -/
namespace MX
open PySem L2

/-- the module's names -/
structure Gb where
  fns : List Str
  gc : List (Str × D)
  bl : List Str
  cls : List Str
  ini : List (Option Nat)
  fld : List Str
  thks : List Str
  mfn : List Str := []
  ifl : List Str := []
  mns : List Str := []
  icn : List Str := []
  xv : Bool := false
  hots : List Str := []
/-- a block's names -/
structure Cn where
  g : Gb
  N : List Str
  sc : Scope
  pin : List Nat := []
  thk : Option Str := none
  xas : Option Str := none
  xal : Option Str := none
  hot : Bool := false
  lam : Bool := false
  fnc : Str → Bool := fun _ => true

def posOf : List Str → Str → Option Nat
  | [], _ => none
  | y :: ys, x => if y = x then some 0 else (posOf ys x).map (· + 1)
theorem posOf_get : ∀ {ys : List Str} {x : Str} {i : Nat}, posOf ys x = some i → ys[i]? = some x
  | y :: ys, x, i, h => by
    simp only [posOf] at h
    split at h
    · next e =>
      cases h
      rw [e]
      rfl
    · cases e : posOf ys x with
      | none =>
        rw [e] at h
        cases h
      | some j =>
        rw [e] at h
        cases h
        exact posOf_get (ys := ys) e
def okN (x : Str) : Bool := !(x == ("__debug__" : Str)) && !(x == ("__classdict__" : Str)) && !(x == ("__name__" : Str))
def visB (sc : Scope) (x : Str) : Bool := match sc.names.lookup x with
  | some .local => true
  | some .cell => true
  | some .free => true
  | _ => false
def locB (Γ : Cn) (x : Str) : Bool := match Γ.sc.names.lookup x with
  | some .local => true
  | some .cell => Γ.fnc x
  | _ => false
def globB (sc : Scope) (x : Str) : Bool := decide (sc.names.lookup x = some .globalImplicit) && okN x
def slotOf (Γ : Cn) (x : Str) : Option Nat := if visB Γ.sc x && okN x then posOf Γ.N x else none
/-- a slot that may be stored -/
def storeOf (Γ : Cn) (x : Str) : Option Nat := match locB Γ x && okN x, posOf Γ.N x with
  | true, some i => if i ∈ Γ.pin then none else some i
  | _, _ => none
def cName (Γ : Cn) (x : Str) : Option CE := match slotOf Γ x with
  | some i => some (.slot i)
  | none => if globB Γ.sc x then (Γ.g.gc.lookup x).map .con else none
def cConst : Const → Option CE
  | .none => some (.con .non)
  | .bool b => some (.con (.bl b))
  | .int i => some (.con (.int i))
  | .str x => some (.con (.str x))
  | _ => none
def cBop : Operator → Option BOp
  | .Add => some .add
  | .Sub => some .sub
  | .Mult => some .mul
  | .FloorDiv => some .fdiv
  | .Mod => some .mod
  | .Pow => some .pow
  | _ => none
def cCop : CmpOp → Option COp
  | .Eq => some .eq
  | .NotEq => some .ne
  | .Lt => some .lt
  | .LtE => some .le
  | .Gt => some .gt
  | .GtE => some .ge
  | .In => some .isin
  | .NotIn => some .notin
  | .Is => some .isb
  | .IsNot => some .nib
def cBt (x : Str) : Option Bt := if x = "sorted" then some .sorted else if x = "len" then some .len else if x = "abs" then some .abs else if x = "max" then some .max else if x = "min" then some .min else if x = "int" then some .int else
  if x = "list" then some .list else if x = "tuple" then some .tuple else if x = "repr" then some .repr else if x = "all" then some .all else if x = "sum" then some .sum else none
def cBm (x : Str) : Option Bm := if x = "append" then some .append else if x = "insert" then some .insert else if x = "join" then some .join else if x = "index" then some .index else if x = "pop" then some .pop else if x = "extend" then some .extend else none
def cTy (x : Str) : Option Ty := if x = "int" then some .int else if x = "bool" then some .bool else if x = "str" then some .str else if x = "tuple" then some .tuple else if x = "list" then some .list else if x = "dict" then some .dict else none
def noSet : Expr → Bool
  | .Set .. => false
  | _ => true
def noSlice : Expr → Bool
  | .Slice .. => false
  | _ => true
def noParam : Arguments → Bool
  | ⟨[], [], none, [], [], none, []⟩ => true
  | _ => false
/-- the base of a method's call is no bare call of a name -/
def plainO : Expr → Bool
  | .Call (.Name _ _) [] [] _ => false
  | _ => true
def cL (f : Expr → Option CE) : List Expr → Option CEs
  | [] => some .nil
  | e :: es => do
    let a ← f e
    let b ← cL f es
    some (.cons a b)
/-- a display's items, stars among them -/
def cLS (f : Expr → Option CE) : List Expr → Option CEs
  | [] => some .nil
  | e :: es => match e with
    | .Starred e _ => do
      let a ← f e
      let b ← cLS f es
      some (.star a b)
    | e => do
      let a ← f e
      let b ← cLS f es
      some (.cons a b)
/-- a part of a slice -/
def cP (f : Expr → Option CE) : Option Expr → Option (Bool × CE)
  | none => some (false, .con .non)
  | some e => (f e).map fun a => (true, a)
/-- list(range(..)) -/
def rgArgs (Γ : Cn) (x : Str) (args : List Expr) : Option (Option Expr × Expr) := if x = "list" then match args with
    | [.Call (.Name y _) ras [] _] => if y = "range" then (if globB Γ.sc y && decide (y ∈ Γ.g.bl) && (posOf Γ.g.fns y).isNone then match ras with
        | [b] => some (none, b)
        | [a, b] => some (some a, b)
        | _ => none
      else none) else none
    | _ => none
  else none
/-- an exception class of the module's own: its field, if it has one -/
def xfOf (g : Gb) (x : Str) : Option (Option Str) := match posOf g.cls x with
  | some c => match g.ini[c]? with
    | some none => some none
    | some (some j) => (g.fld[j]?).map some
    | none => none
  | none => none
/-- the class of an exception: own, or a built-in one -/
def isXn (g : Gb) (t : Str) : Bool := (posOf g.cls t).isSome || (decide (t ∈ g.bl) && (cTy t).isNone)
/-- a call on the exception that is handled, by its name -/
def aliasC (Γ : Cn) (x : Str) (args : List Expr) : Option CE := match Γ.xal, args with
  | some nm, .Name y _ :: r => if y = nm ∧ globB Γ.sc x = true then match r with
      | [] => if x ∈ Γ.g.hots then (posOf Γ.g.fns x).map .hcl else none
      | [.Name t _] => if x = "isinstance" ∧ x ∈ Γ.g.bl ∧ globB Γ.sc t = true then some (.xis t) else none
      | _ => none
    else none
  | _, _ => none
mutual
def cTg (Γ : Cn) : Nat → Expr → Option Tg
  | 0, _ => none
  | n + 1, .Name x _ => (storeOf Γ x).map .name
  | n + 1, .Tuple es _ _ => if Γ.hot then none else (cTgs Γ n es).map .tup
  | _, _ => none
def cTgs (Γ : Cn) : Nat → List Expr → Option Tgs
  | 0, _ => none
  | n + 1, [] => some .nil
  | n + 1, e :: es => do
    let a ← cTg Γ n e
    let b ← cTgs Γ n es
    some (.cons a b)
end
/-- the comprehension's own names, with their slots -/
def ownOf (N : List Str) (scope : Scope) : List (Str × Nat) := scope.names.filterMap fun y => match y.2 with
  | .local => (posOf N y.1).map fun i => (y.1, i)
  | .cell => (posOf N y.1).map fun i => (y.1, i)
  | _ => none
def isTupE : Expr → Bool
  | .Tuple .. => true
  | _ => false
def strictK : List Keyword → Option Bool
  | [] => some false
  | [⟨some x, .Constant (.bool true) _ _, _⟩] => if x = "strict" then some true else none
  | _ => none
def cIt (f : Expr → Option CE) (Γ : Cn) (tg : Expr) (e : Expr) : Option It := match e with
  | .Call (.Name x _) [a, b] kws _ => if x = "zip" then
      if globB Γ.sc x && decide (x ∈ Γ.g.bl) && (posOf Γ.g.fns x).isNone && isTupE tg then do
        let st ← strictK kws
        let a' ← f a
        let b' ← f b
        some (.zip st a' b')
      else none
    else (f e).map .seq
  | .Call (.Name x _) args [] _ => if x = "range" then
      if globB Γ.sc x && decide (x ∈ Γ.g.bl) && (posOf Γ.g.fns x).isNone then match args with
        | [a] => (f a).map .rng
        | _ => none
      else none
    else if x = "enumerate" then
      if globB Γ.sc x && decide (x ∈ Γ.g.bl) && (posOf Γ.g.fns x).isNone && isTupE tg then match args with
        | [a] => (f a).map .enm
        | _ => none
      else none
    else (f e).map .seq
  | e => (f e).map .seq
/-- a clause's test -/
def cCnd (f : Expr → Option CE) : List Expr → Option CEs
  | [] => some .nil
  | [c] => (f c).map fun c' => .cons c' .nil
  | _ => none
def dOf : Option CE → Option D
  | some (.con d) => some d
  | _ => none
def cE : Nat → Cn → Expr → Option CE
  | 0, _, _ => none
  | n + 1, Γ, .Constant c _ _ => cConst c
  | n + 1, Γ, .Name x _ => cName Γ x
  | n + 1, Γ, .BinOp a op b _ => do
    let a' ← cE n Γ a
    let b' ← cE n Γ b
    let o ← cBop op
    some (.bin o a' b')
  | n + 1, Γ, .UnaryOp op a _ => do
    let a' ← cE n Γ a
    match op with
    | .Not => some (.notE a')
    | .USub => some (.neg a')
    | _ => none
  | n + 1, Γ, .BoolOp op es pos => match es with
    | [] => none
    | [a] => cE n Γ a
    | a :: b :: r => do
      let a' ← cE n Γ a
      let b' ← cE n Γ (.BoolOp op (b :: r) pos)
      match op with
      | .And => some (.andE a' b')
      | .Or => some (.orE a' b')
  | n + 1, Γ, .Compare a ops bs _ => match ops, bs with
    | [op], [b] => match op with
      | .Is => match b with
        | .Constant .none _ _ => (cE n Γ a).map .isN
        | .Constant (.bool k) _ _ => (cE n Γ a).map fun a' => .cmp .isb a' (.con (.bl k))
        | _ => none
      | .IsNot => match b with
        | .Constant .none _ _ => (cE n Γ a).map .notN
        | .Constant (.bool k) _ _ => (cE n Γ a).map fun a' => .cmp .nib a' (.con (.bl k))
        | _ => none
      | _ => if noSet b then do
          let a' ← cE n Γ a
          let b' ← cE n Γ b
          let o ← cCop op
          some (.cmp o a' b')
        else none
    | [o1, o2], [b, c] => if noSet b && noSet c then do
        let a' ← cE n Γ a
        let b' ← cE n Γ b
        let c' ← cE n Γ c
        let p1 ← cCop o1
        let p2 ← cCop o2
        some (.chain p1 p2 a' b' c')
      else none
    | _, _ => none
  | n + 1, Γ, .IfExp t a b _ => do
    let t' ← cE n Γ t
    let a' ← cE n Γ a
    let b' ← cE n Γ b
    some (.ife t' a' b')
  | n + 1, Γ, .Tuple es _ _ => (cLS (cE n Γ) es).map .tup
  | n + 1, Γ, .List es _ => (cLS (cE n Γ) es).map .lst
  | n + 1, Γ, .Dict ks vs _ => match ks, vs with
    | [], [] => some .edct
    | [some (.Constant ck _ _)], [.Constant cv _ _] => match dOf (cConst ck), dOf (cConst cv) with
      | some k, some v => some (.disp k v)
      | _, _ => none
    | _, _ => none
  | n + 1, Γ, .Subscript a i _ => match i with
    | .Slice none none (some (.UnaryOp .USub (.Constant (.int 1) _ _) _)) _ => (cE n Γ a).map .rev
    | .Slice lo hi none _ => do
      let a' ← cE n Γ a
      let l ← cP (cE n Γ) lo
      let u ← cP (cE n Γ) hi
      some (.slc a' l.1 l.2 u.1 u.2)
    | .Slice .. => none
    | _ => do
      let a' ← cE n Γ a
      let i' ← cE n Γ i
      some (.idx a' i')
  | n + 1, Γ, .Attribute o f _ => match o with
    | .Name x _ => match Γ.xas with
      | some y => if x = y then (posOf Γ.g.fld f).map .xat else none
      | none => if f ∈ Γ.g.ifl then (cE n Γ o).map (.fld f) else none
    | _ => if plainO o && decide (f ∈ Γ.g.ifl) then (cE n Γ o).map (.fld f) else none
  | n + 1, Γ, .ListComp elt gs scope _ => if Γ.hot then none else match gs with
    | [⟨tg, iter, ifs, 0⟩] =>
      let own := ownOf Γ.N scope
      if blkC Γ.N Γ.sc scope own && noSet iter then do
        let it ← cIt (cE n Γ) Γ tg iter
        let Δ : Cn := { Γ with sc := relS scope Γ.sc, pin := [], thk := none, xas := none, xal := none, lam := false, fnc := fun x => scope.names.lookup x == some .cell }
        let tg' ← cTg Δ n tg
        let elt' ← cE n Δ elt
        let c ← match ifs with
          | [] => some CEs.nil
          | [c] => (cE n Δ c).map fun c' => CEs.cons c' .nil
          | _ => none
        some (.comp elt' (own.map (·.2)) tg' it c)
      else none
    | [⟨tg, iter, ifs, 0⟩, ⟨tg1, iter1, ifs1, 0⟩] =>
      let own := ownOf Γ.N scope
      if blkC Γ.N Γ.sc scope own && (noSet iter && noSet iter1) then do
        let it ← cIt (cE n Γ) Γ tg iter
        let tg' ← cTg { Γ with sc := relS scope Γ.sc, pin := [], thk := none, xas := none, xal := none, lam := false, fnc := fun x => scope.names.lookup x == some .cell } n tg
        let c ← cCnd (cE n { Γ with sc := relS scope Γ.sc, pin := [], thk := none, xas := none, xal := none, lam := false, fnc := fun x => scope.names.lookup x == some .cell }) ifs
        let it1 ← cIt (cE n { Γ with sc := relS scope Γ.sc, pin := [], thk := none, xas := none, xal := none, lam := false, fnc := fun x => scope.names.lookup x == some .cell }) { Γ with sc := relS scope Γ.sc, pin := [], thk := none, xas := none, xal := none, lam := false, fnc := fun x => scope.names.lookup x == some .cell } tg1 iter1
        let tg1' ← cTg { Γ with sc := relS scope Γ.sc, pin := [], thk := none, xas := none, xal := none, lam := false, fnc := fun x => scope.names.lookup x == some .cell } n tg1
        let c1 ← cCnd (cE n { Γ with sc := relS scope Γ.sc, pin := [], thk := none, xas := none, xal := none, lam := false, fnc := fun x => scope.names.lookup x == some .cell }) ifs1
        let elt' ← cE n { Γ with sc := relS scope Γ.sc, pin := [], thk := none, xas := none, xal := none, lam := false, fnc := fun x => scope.names.lookup x == some .cell } elt
        some (.comp2 elt' (own.map (·.2)) (slotsT tg1') tg' it c tg1' it1 c1)
      else none
    | _ => none
  | n + 1, Γ, .DictComp kx vx gs scope _ => if Γ.hot then none else match gs with
    | [⟨tg, iter, [], 0⟩] =>
      let own := ownOf Γ.N scope
      if blkC Γ.N Γ.sc scope own && noSet iter then do
        let it ← cIt (cE n Γ) Γ tg iter
        let Δ : Cn := { Γ with sc := relS scope Γ.sc, pin := [], thk := none, xas := none, xal := none, lam := false, fnc := fun x => scope.names.lookup x == some .cell }
        let tg' ← cTg Δ n tg
        let k' ← cE n Δ kx
        let v' ← cE n Δ vx
        some (.dcomp k' v' (own.map (·.2)) tg' it)
      else none
    | _ => none
  | n + 1, Γ, .Call f args kws pos => match kws with
    | [] => match f with
      | .Name x _ => match aliasC Γ x args with
        | some ce => some ce
        | none => if Γ.thk = some x then (match args with
          | [] => some .act
          | _ => none)
        else if globB Γ.sc x then
          match posOf Γ.g.fns x with
          | some i => if Γ.hot then none else match args with
            | [.Lambda params body scope _] => if Γ.lam && noParam params && LamX.lamSB Γ.sc scope && decide (x ∈ Γ.g.thks) then do
                let b ← cE n { Γ with sc := scope, thk := none, xas := none, xal := none, lam := false, fnc := fun _ => false } body
                some (.lam i b)
              else none
            | [.Starred e _] => (cE n Γ e).map fun e' => .call i (.star e' .nil)
            | _ => (cL (cE n Γ) args).map (.call i)
          | none => if x ∈ Γ.g.bl then
              if x = "isinstance" then match args with
                | [a, .Name t _] => if Γ.g.xv && (globB Γ.sc t && (isXn Γ.g t && !Γ.hot)) then (cE n Γ a).map fun a' => .isx a' t
                  else if globB Γ.sc t && decide (t ∈ Γ.g.bl) && !Γ.hot then do
                    let a' ← cE n Γ a
                    let ty ← cTy t
                    some (.isi a' ty)
                  else none
                | _ => none
              else match rgArgs Γ x args with
              | some (a, b) => if Γ.hot then none else do
                  let a' ← cP (cE n Γ) a
                  let b' ← cE n Γ b
                  some (.lrng a'.1 a'.2 b')
              | none => do
                let b ← cBt x
                if Γ.hot && !(b == .repr) then none else do
                  let es ← cL (cE n Γ) args
                  match es with
                  | .nil => none
                  | _ => some (.bt b es)
            else match posOf Γ.g.icn x with
              | some c => if Γ.hot then none else do
                let es ← cL (cE n Γ) args
                match es with
                | .nil => none
                | _ => some (.make c es)
              | none => match args with
                | [e] => if Γ.g.xv && !Γ.hot then (match xfOf Γ.g x with
                    | some (some f) => (cE n Γ e).map (.mkx x f true)
                    | some none => (cE n Γ e).map (.mkx x x false)
                    | none => none) else none
                | _ => none
        else none
      | .Attribute o m apos => if Γ.hot then none else if m ∈ Γ.g.mns then (if plainO o && (apos.endLine == pos.line) && decide (args.length < 30) then do
          let o' ← cE n Γ o
          let es ← cL (cE n Γ) args
          some (.meth m o' es)
        else none) else if plainO o && (apos.endLine == pos.line) && decide (args.length < 30) then do
          let o' ← cE n Γ o
          let b ← cBm m
          let es ← cL (cE n Γ) args
          match es with
          | .nil => none
          | _ => some (.bm b o' es)
        else none
      | _ => none
    | _ => none
  | _, _, _ => none

/-! ### statements -/
def cHd (f : Cn → List Stmt → Option CSs) (Γ : Cn) : List ExceptHandler → Option Hds
  | [] => some .nil
  | .ExceptHandler (some (.Name x _)) as (b :: suite) _ :: r => if globB Γ.sc x then do
      let c ← posOf Γ.g.cls x
      let r' ← cHd f Γ r
      match as with
      | none => do
        let s ← f { Γ with hot := true, lam := false, thk := none, xas := none, xal := none } (b :: suite)
        some (.cons c none s r')
      | some e => do
        let i ← storeOf Γ e
        if Γ.sc.names.lookup e = some .local then do
          let s ← f { Γ with hot := true, lam := false, thk := none, xas := some e, xal := some e, pin := i :: Γ.pin } (b :: suite)
          some (.cons c (some i) s r')
        else none
    else none
  | _ => none
/-- whether name = [..] stores within the comprehension -/
def swB (Γ : Cn) (x : Str) (p : Pos) (scope : Scope) (q : Pos) : Bool :=
  decide (Γ.sc.names.lookup x = some .local) && p.line == q.line && !(scope.names.any fun (n, k) => n == x && (k == .local || k == .cell))
/-- a, b = x, y: stored from the right -/
def parB (Γ : Cn) (x y : Str) (px py : Pos) (a b : Expr) : Bool :=
  decide (Γ.sc.names.lookup x = some .local) && decide (Γ.sc.names.lookup y = some .local) && px.line == py.line && !(x == y) && !([a, b].all (foldedForSure 8)) && !([a, b].all (constantsAlone 8))
/-- no such exchange: one name is no local one -/
def nparB (Γ : Cn) (ts : List Expr) : Bool := ts.any fun t => match t with
  | .Name x _ => !decide (Γ.sc.names.lookup x = some .local)
  | _ => true
def setV : Expr → Bool
  | .Name .. => true
  | .List .. => true
  | .Call .. => true
  | .Constant .. => true
  | .Subscript .. => true
  | _ => false
def cAsg (n : Nat) (Γ : Cn) (t e : Expr) : Option CS := match t with
  | .Name x p => match e with
    | .SetComp .. => none
    | .DictComp .. => do
      let i ← storeOf Γ x
      let e' ← cE n Γ e
      some (.asg (.name i) e')
    | .ListComp _ [_] scope q => do
      let i ← storeOf Γ x
      let e' ← cE n Γ e
      some (.asg (.name i) e')
    | .ListComp .. => none
    | _ => do
      let i ← storeOf Γ x
      let e' ← cE n Γ e
      some (.asg (.name i) e')
  | .Tuple ts _ _ => if Γ.hot then none else match e with
    | .Tuple vs _ _ => match ts, vs with
      | [.Name x px, .Name y py], [a, b] => if parB Γ x y px py a b then do
          let i ← storeOf Γ x
          let j ← storeOf Γ y
          let es ← cL (cE n Γ) [a, b]
          some (.par [i, j] es)
        else if nparB Γ ts then do
          let t' ← cTg Γ n t
          let e' ← cE n Γ e
          some (.asg t' e')
        else none
      | _, _ => if nparB Γ ts then do
          let t' ← cTg Γ n t
          let e' ← cE n Γ e
          some (.asg t' e')
        else none
    | .Call .. => do
      let t' ← cTg Γ n t
      let e' ← cE n Γ e
      some (.asg t' e')
    | .Name .. => do
      let t' ← cTg Γ n t
      let e' ← cE n Γ e
      some (.asg t' e')
    | .Subscript .. => do
      let t' ← cTg Γ n t
      let e' ← cE n Γ e
      some (.asg t' e')
    | _ => none
  | .Attribute o f _ => if Γ.hot then none else if setV e && decide (f ∈ Γ.g.ifl) then do
      let e' ← cE n Γ e
      let o' ← cE n Γ o
      some (.setF f o' e')
    else none
  | .Subscript o i _ => if Γ.hot then none else if noSlice i then match e with
    | .SetComp .. => none
    | .DictComp .. => none
    | _ => do
      let e' ← cE n Γ e
      let o' ← cE n Γ o
      let i' ← cE n Γ i
      some (.sets o' i' e')
    else none
  | _ => none
def cRaise (n : Nat) (Γ : Cn) (e : Expr) : Option CS := if Γ.hot then none else match e with
  | .Call (.Name x _) args [] _ => if globB Γ.sc x then do
      let c ← posOf Γ.g.cls x
      match Γ.g.ini[c]? with
      | some none => match args with
        | [.Constant (.str _) _ _] => some (.raiseM c)
        | _ => none
      | some (some f) => match args with
        | [a] => (cE n Γ a).map (.raiseI c f)
        | _ => none
      | none => none
    else none
  | _ => none
mutual
def cS : Nat → Cn → Stmt → Option CS
  | 0, _, _ => none
  | n + 1, Γ, .Return v _ => match v with
    | some e => (cE n Γ e).map .ret
    | none => some .retN
  | n + 1, Γ, .Expr e _ => match e with
    | .ListComp .. => none
    | .SetComp .. => none
    | .DictComp .. => none
    | _ => (cE n Γ e).map .expr
  | n + 1, Γ, .Assign ts e _ => match ts with
    | [t] => cAsg n Γ t e
    | _ => none
  | n + 1, Γ, .AugAssign t op e _ => match t with
    | .Name x _ => match op with
      | .Add => do
        let i ← storeOf Γ x
        let e' ← cE n Γ e
        some (.aug false i e')
      | .Sub => do
        let i ← storeOf Γ x
        let e' ← cE n Γ e
        some (.aug true i e')
      | _ => none
    | _ => none
  | n + 1, Γ, .If c a b _ => do
    let c' ← cE n Γ c
    let a' ← cSs n Γ a
    let b' ← cSs n Γ b
    some (.ifS c' a' b')
  | n + 1, Γ, .For t it body orelse _ => if Γ.hot then none else match orelse with
    | [] => if noSet it then do
        let t' ← cTg Γ n t
        let it' ← cIt (cE n Γ) Γ t it
        let b' ← cSs n Γ body
        some (.forS t' it' b')
      else none
    | _ => none
  | n + 1, Γ, .While c body orelse _ => if Γ.hot then none else match orelse with
    | [] => do
      let c' ← cE n Γ c
      let b' ← cSs n Γ body
      some (.whileS c' b')
    | _ => none
  | n + 1, Γ, .Raise e c _ => match e, c with
    | some e, none => cRaise n Γ e
    | _, _ => none
  | n + 1, Γ, .Try body hs orelse fin _ => if Γ.hot || (Γ.xas.isSome || Γ.xal.isSome) then none else match orelse, fin, hs with
    | [], [], _ :: _ => do
      let b' ← cSs n Γ body
      let hs' ← cHd (cSs n) Γ hs
      some (.tryS b' hs')
    | _, _, _ => none
  | _ + 1, _, .Pass _ => some .pass
  | _ + 1, _, .Break _ => some .brk
  | _ + 1, _, .Continue _ => some .cnt
  | _, _, _ => none
def cSs : Nat → Cn → List Stmt → Option CSs
  | 0, _, _ => none
  | _ + 1, _, [] => some .nil
  | n + 1, Γ, s :: ss => do
    let a ← cS n Γ s
    let b ← cSs n Γ ss
    some (.cons a b)
end
end MX
set_option maxHeartbeats 2000000
/-! Calls of the module's defs, where no container is being shown. -/
namespace MX
open PySem PySem.Spec PyProof.Rows L2

structure FnM (P : Program) (w : World) (K : PySem.W.Frag) (mg : Str → Option Value) (base : Heap) (k : Nat) (f : Addr) (fd : FuncData) (ps : List Str) (sp : Sp) : Prop where
  len : ∀ vs H Q E, sp vs H Q E → vs.length = ps.length
  run : ∀ (A : Around) (outer : List PySem.Env) (s : Shared) (H : Hp) (args : Args) (us : List Value) (vs : List V) (Q : VK) (E : XK), Room k A → A.guards = some [] → Env0 P w K mg base A outer s H →
    BindsTo s fd args (ps.zip us) → Vals vs us → sp vs H Q E → codeAny (model P w) A (.call (.ref f) args) (CR (L2.CX P w) outer P w H s Q E) s
theorem deeper_guards (A : Around) (env : PySem.Env) : (A.deeper env).guards = A.guards := rfl
section
variable {X : Cx} {k : Nat} {f : Addr} {fd : FuncData} {ps : List Str} {sp : Sp}
theorem run_fnM {pins : List (Addr × Obj)} {σ : L2.St} {H : Hp} {s : Shared} {Q : VK} {E : XK} {us : List Value} {vs : List V} (F : FnM X.prog X.w X.K X.mg X.base k f fd ps sp) (hr : Room k X.A) (hg : X.A.guards = some [])
    (hb : Binds X.K fd ps []) (hx : PassesAt (L2.CX X.prog X.w) X σ E) (I : Inv X pins σ H s) (r : Vals vs us) (h : sp vs H Q E) : wpAny (model X.prog X.w) X.A (call (.ref f) us) (EP X pins σ Q) X.xe s := by
  have hl : us.length = ps.length := r.length.symm.trans (F.len _ _ _ _ h)
  have hbd := hb s us I.kIn (by rw [List.append_nil]; exact hl)
  rw [List.append_nil] at hbd
  refine wpAny_call (codeAny_mono (F.run X.A X.stack s H _ us vs Q E hr hg I.env0 hbd r h) fun r s' hq => ?_)
  match r, hq with
  | .error e, hq => exact hx pins H s e s' I hq
  | .ok (.ret u), hq => exact I.after hq
  | .ok .next, hq => exact hq.elim
  | .ok .brk, hq => exact hq.elim
  | .ok .cont, hq => exact hq.elim
end
/-- a def by its body -/
theorem fnM_of {P : Program} {w : World} {K : PySem.W.Frag} {mg : Str → Option Value} {base : Heap} {k : Nat} {f : Addr} {name qual : Str} {params : Arguments} {body : List Stmt} {scope : Scope} {dV kV doc pm cdv ct oc : Value} {an od : Option Addr}
    {osl : Array (Option Value)} {N ps : List Str} {sp : Sp} (lk : K.lookup f = some ⟨oc, od, .func (PySem.W.fnOf name qual params body scope dV kV doc pm an cdv ct), osl⟩) (hcd : PySem.W.codeIn K cdv qual = true) (S : FnScope N ps scope)
    (len : ∀ vs H Q E, sp vs H Q E → vs.length = ps.length)
    (hbody : ∀ (A : Around) (outer : List PySem.Env) (s : Shared) (H : Hp) (vs : List V) (Q : VK) (E : XK), Room k (A.deeper (envOfC qual scope s.heap.objs.size f cdv)) → A.guards = some [] → sp vs H Q E →
      ∃ t, PSs (cxOf (L2.CX P w) P w K mg base N qual scope f cdv A outer s H E) body t ∧ t { nx := fun _ H' => Q .non H', rt := Q } (L2.start N vs) H) :
    FnM P w K mg base (k + 1) f (PySem.W.fnOf name qual params body scope dV kV doc pm an cdv ct) ps sp :=
  ⟨len, fun A outer s H args us vs Q E hr hg e0 hb r hsp => LamX.run_ofS lk hcd S hr e0 hb r (len _ _ _ _ hsp) fun hr' => hbody A outer s H vs Q E hr' hg hsp⟩
end MX
/-! an own exception class whose base takes its __new__ from a base of its own (KeyError) -/
namespace MX
open PySem PySem.Spec PySem.HandSPX PyProof.Rows
/-- which built-in class's __new__ makes such an object -/
structure NewF (B newId initId : String) (bmF bmB : List Value) : Prop where
  base : ExcBaseFacts B newId initId bmF
  has : bmB.contains (.type B) = true
  notA : bmB.contains (.type "AttributeError") = false
  notN : bmB.contains (.type "NameError") = false
theorem NewF.of {B newId initId : String} {bm : List Value} (F : ExcBaseFacts B newId initId bm) : NewF B newId initId bm bm := ⟨F, F.hasB, F.noAttr, F.noName⟩
section
variable {MM : Model} {A : Around} {E : Value → Shared → Prop} {hh : Heap} {gs : Array GenState} {dr : Drawn} {tk : Nat} {oo : OsState}
variable {nm q : Str} {C N : Addr} {bs bm bmB bmF : List Value} {hdct : Bool} {sn : List Str} {sub : List Value} {ab : Bool} {col : Option Bool} {dd : Option Addr} {k0 k1 k2 k3 k5 : Option Value} {B newId initId : String}
theorem own_check (G : NewF B newId initId bmF bmB) (same : ∀ X : String, bm.contains (.type X) = bmB.contains (.type X)) {more : List Value} {Q : Unit → Shared → Prop}
    (atC : hh.get? C = some (excClassObj nm q C N bs bm hdct sn sub ab col dd k0 k1 k2 k3 k5 newId)) (go : Q () ⟨hh, gs, dr, tk, oo⟩) : wpAny MM A (checkBuiltinCall newId ⟨.ref C :: more, []⟩) Q E ⟨hh, gs, dr, tk, oo⟩ := by
  have inB : (Value.ref C :: bm).contains (.type B) = true := by
    rw [List.contains_cons, same, G.has, Bool.or_true]
  have star := G.base.noStar
  simp only [checkBuiltinCall, G.base.newKind, G.base.newSplit, G.base.newRow]
  repeat (first
    | refine wpAny_loadPart_at atC ?_
    | (refine wpAny_isSubtype_exc atC ?_; rw [inB])
    | refine wpAny_staticBase_exc atC ?_
    | refine wpAny_madeBy_exc atC ?_
    | simp only [bne_self_eq_false, Bool.false_eq_true, if_false]
    | wp_step)
  exact go
end
section
variable {pr : Program} {w : World} {A : Around} {E : Value → Shared → Prop} {R : Result → Shared → Prop} {hh : Heap} {gs : Array GenState} {dr : Drawn} {tk : Nat} {oo : OsState}
variable {nm q : Str} {C N : Addr} {bs bm bmB bmF : List Value} {hdct : Bool} {sn : List Str} {sub : List Value} {ab : Bool} {col : Option Bool} {dd : Option Addr} {k0 k1 k2 k3 k5 : Option Value} {B newId initId : String}
theorem own_new (G : NewF B newId initId bmF bmB) (same : ∀ X : String, bm.contains (.type X) = bmB.contains (.type X)) {more : List Value} (atC : hh.get? C = some (excClassObj nm q C N bs bm hdct sn sub ab col dd k0 k1 k2 k3 k5 newId))
    (go : R (.ok (.ret (.ref (hh.objs.size + 1)))) ⟨(hh.push { cls := .type "tuple", data := .seq more.toArray }).push { cls := .ref C, data := .fields #[.ref hh.objs.size, .none, .none, .none, .bool false, .none] }, gs, dr, tk, oo⟩)
    (hrest : more.length ≤ sizeLine) : codeAny (model pr w) A (.builtin newId ⟨.ref C :: more, []⟩) R ⟨hh, gs, dr, tk, oo⟩ := by
  have hends := G.base.ends
  have inB : (Value.ref C :: bm).contains (.type B) = true := by
    rw [List.contains_cons, same, G.has, Bool.or_true]
  have inA : (Value.ref C :: bm).contains (.type "AttributeError") = false := by
    rw [List.contains_cons, same, G.notA]
    rfl
  have inN : (Value.ref C :: bm).contains (.type "NameError") = false := by
    rw [List.contains_cons, same, G.notN]
    rfl
  apply codeAny_builtinAt G.base.entry
  unfold Builtin.«BaseException.__new__»
  refine PySem.wpAt_bind ?_
  show PySem.wpAt _ _ _ (stack >>= _) _ _ _
  refine PySem.wpAt_bind (PySem.wpAt_stack fun _ _ => PySem.wpAt_of_wpAny ?_)
  wp_walk
  refine PySem.wpAt_of_wpAny ?_
  rw [G.base.owner]
  repeat (first
    | with_reducible refine wpAny_madeHere_exc G.base.canon atC ?_
    | with_reducible refine wpAny_loadPart_at atC ?_
    | (with_reducible refine wpAny_isSubtype_exc atC ?_; first | rw [inB] | rw [inA] | rw [inN])
    | wp_step)
  show R _ _
  rw [Heap.size_push]
  exact go
theorem own_type (G : NewF B newId initId bmF bmB) (same : ∀ X : String, bm.contains (.type X) = bmB.contains (.type X)) {more : List Value} {fI : Addr} {Q : Fin → Shared → Prop} (atC : hh.get? C = some (excClassObj nm q C N bs bm hdct sn sub ab col dd k0 k1 k2 k3 k5 newId))
    (li : W.Looks (model pr w) hh (typeLookup (.ref C) "__init__") (some (.ref fI))) (lb : ∀ self, W.Looks (model pr w) hh (bindSpecial (.ref fI) self) (.ref fI, [self])) (hrest : more.length ≤ sizeLine)
    (go : codeAny (model pr w) A (.call (.ref fI) ⟨.ref (hh.objs.size + 1) :: more, []⟩) (fun r s' => match r with | .ok (.ret v) => v = .none ∧ Q (.done (.ret (.ref (hh.objs.size + 1)))) s' | .ok _ => False | .error e => E e s')
      ⟨(hh.push (W.kdv_tup more)).push (excO C hh.objs.size), gs, dr, tk, oo⟩) : wpAny (model pr w) A (Builtin.«type.__call__» ⟨.ref C :: more, []⟩) Q E ⟨hh, gs, dr, tk, oo⟩ := by
  repeat (first
    | with_reducible refine wpAny_loadPart_at atC ?_
    | with_reducible refine wpAny_madeBy_exc atC ?_
    | wp_step)
  refine codeAny_call_builtin_code (Code.quiet_builtin _ G.base.quiet) (own_check G same atC (own_new G same atC ?_ hrest))
  show wpAny _ _ _ _ _ _
  have old : ∀ b o, hh.get? b = some o → ((hh.push (W.kdv_tup more)).push (excO C hh.objs.size)).get? b = some o := fun b o e =>
    Heap.get?_push_of_some _ (Heap.get?_push_of_some _ e)
  have atC1 := old _ _ atC
  have new : ((hh.push (W.kdv_tup more)).push (excO C hh.objs.size)).get? (hh.objs.size + 1) = some (excO C hh.objs.size) := by
    heap_get
  have inC : (Value.ref C :: bm).contains (.ref C) = true := by
    simp
  have li1 := li.keeps old
  have lb1 := (lb (.ref (hh.objs.size + 1))).keeps old
  unfold isInstance
  repeat (first
    | with_reducible refine wpAny_loadPart_at new ?_
    | (with_reducible refine wpAny_isSubtype_exc atC1 ?_; rw [inC])
    | wp_step)
  show wpAny _ _ (typeLookup (.ref C) _) _ _ _
  refine li1.at (wpAny_holding (wpAny_bind (lb1.at (wpAny_bind (wpAny_call (codeAny_mono go fun r s' z => ?_))))))
  match r, z with
  | .error e, z => exact z
  | .ok .next, z => exact z.elim
  | .ok .brk, z => exact z.elim
  | .ok .cont, z => exact z.elim
  | .ok (.ret v), z =>
    obtain ⟨rfl, z⟩ := z
    first
      | exact wpAny_pure (wpAny_pure z)
      | (wp_walk; exact z)
theorem own_call (G : NewF B newId initId bmF bmB) (same : ∀ X : String, bm.contains (.type X) = bmB.contains (.type X)) {more : List Value} {fI : Addr} (atC : hh.get? C = some (excClassObj nm q C N bs bm hdct sn sub ab col dd k0 k1 k2 k3 k5 newId))
    (li : W.Looks (model pr w) hh (typeLookup (.ref C) "__init__") (some (.ref fI))) (lb : ∀ self, W.Looks (model pr w) hh (bindSpecial (.ref fI) self) (.ref fI, [self])) (hrest : more.length ≤ sizeLine)
    (go : codeAny (model pr w) (A.under (.builtin "type.__call__" ⟨.ref C :: more, []⟩)) (.call (.ref fI) ⟨.ref (hh.objs.size + 1) :: more, []⟩) (W.InitBack (hh.objs.size + 1) R) ⟨(hh.push (W.kdv_tup more)).push (excO C hh.objs.size), gs, dr, tk, oo⟩) :
    codeAny (model pr w) A (.call (.ref C) ⟨more, []⟩) R ⟨hh, gs, dr, tk, oo⟩ := by
  have look := tc_lookup
  have bind := tc_bind (.ref C)
  have ty : (⟨hh, gs, dr, tk, oo⟩ : Shared).TypeIs (.ref C) "type" := ⟨_, atC, rfl⟩
  apply codeAny_of_tree
  show wpAny _ _ (callAny (.ref C) _) _ _ _
  repeat (any_goals (first
    | assumption
    | with_reducible refine wpAny_loadPart_at atC ?_
    | wp_step))
  refine ⟨rfl, codeAny_call_builtin_at (Code.quiet_builtin _ (by decide +kernel)) entry_typeCall (wpAny_check_type_call_sub atC (own_type G same atC li lb hrest (codeAny_mono go fun r s' z => ?_)))⟩
  rcases r with e | (v | _ | _ | _) <;> exact z
end
end MX
namespace MX
open PySem PySem.Spec PyProof.Rows L2
/-! ### an own exception with one field, over any built-in one -/
section
open Builtin Builtin.ObjectAttr
variable {prog : Program} {w : World} {A : Around} {E : Value → Shared → Prop} {R : Result → Shared → Prop} {hp : Heap} {g : Array GenState} {d : Drawn} {t : Nat} {os : OsState}
/-- object.__setattr__, the first field -/
theorem osa_first {K : PySem.W.Frag} {B : String} {bmB : List Value} {name : Str} {tk : Tok} {v : Value} {x C : Addr} {fv : Array Value} {cd : ClassData} (SF : StoreFacts B bmB "object.__setattr__" "object") (X : K.In hp)
    (hx : hp.get? x = some { cls := .ref C, data := .fields fv }) (hp2 : PySem.W.excOver K C bmB = true) (hcd : PySem.W.clsIn K C = some cd) (hh : cd.hasDict = true) (ht : PySem.W.takerIn K C name = some none)
    (hq : ∀ h' tk' dx, (∀ b o, b ≠ x → hp.get? b = some o → h'.get? b = some o) → hp.objs.size ≤ dx → dx ≠ x → h'.get? x = some { cls := .ref C, dict := some dx, data := .fields fv } →
      h'.Ns1 dx (fun y => if y = name then some v else none) → R (.ok (.ret .none)) ⟨h', g, d, tk', os⟩) :
    codeAny (model prog w) A (.call (.builtin "object.__setattr__") ⟨[.ref x, .str name tk, v], []⟩) R ⟨hp, g, d, t, os⟩ := by
  have I : PySem.W.InstAt hp x { cls := .ref C, data := .fields fv } C none := ⟨hx, rfl, rfl, trivial⟩
  have look : PySem.W.Looks (model prog w) hp (classData C) cd := PySem.W.looks_clsIn X hcd
  have new : x ≠ hp.objs.size := Nat.ne_of_lt (Heap.lt_size hx)
  refine PySem.W.osa_openX SF X I hp2 ht fun b => ?_
  show wpAny _ _ (storeInOwnDict (.ref x) (.ref C) (.str name tk) name v b) _ _ _
  obtain ⟨nm, bs, mro, ns, qn, hd, sn, sb, ab, col, del⟩ := cd
  dsimp only at hh
  subst hh
  unfold storeInOwnDict ownDictForStores
  repeat (first | with_reducible refine PySem.HandSPX.store_in_new ?_ ?_ | with_reducible refine wpAny_loadPart_at hx ?_ | with_reducible refine look.at ?_ | wp_step)
  · exact ⟨_, #[], _, (Heap.get?_update_ne _ _ _ _ new.symm).trans (Heap.get?_push_at rfl rfl), rfl, fun e he => absurd he (by simp), fun _ => rfl⟩
  · intro h' tk' put same
    have there : (hp.push { cls := .type "dict", data := .dict #[] }).get? x = some { cls := .ref C, data := .fields fv } := Heap.get?_push_of_some _ hx
    exact hq h' tk' hp.objs.size (fun b o hb ho => (same.2 b (Nat.ne_of_lt (Heap.lt_size ho))).trans ((Heap.get?_update_ne _ _ _ _ hb).trans (Heap.get?_push_of_some _ ho))) (Nat.le_refl _) new.symm
      ((same.2 x new).trans (Heap.get?_update_self _ there rfl)) put
end
/-- what the written part says of such a class -/
structure IniC (K : PySem.W.Frag) (C fI : Addr) (f : Str) : Prop where
  ex : ∃ (B B' newId initId : String) (bmF bmB : List Value) (cd : ClassData), NewF B' newId initId bmF bmB ∧ StoreFacts B bmB "object.__setattr__" "object" ∧ PySem.W.excInitIn K C bmB newId = true ∧ PySem.W.excOver K C bmB = true ∧ PySem.W.clsIn K C = some cd ∧ cd.hasDict = true
  tak : PySem.W.takerIn K C f = some none
  sa : PySem.W.findIn K (.ref C) "__setattr__" = some (some (.builtin "object.__setattr__"))
  exC : PySem.W.subIn K (.ref C) (.type "BaseException") = some true
  tyC : PySem.W.typeIn K (.ref C) = some (.type "type")
  kC : PySem.W.keepIn K (.ref C) = true
  ini : PySem.W.findIn K (.ref C) "__init__" = some (some (.ref fI))
  tI : PySem.W.typeIn K (.ref fI) = some (.type "function")
section
variable {X : Cx} {pins : List (Addr × Obj)} {σ : L2.St} {H : Hp} {s : Shared} {a C fI : Addr} {f : Str} {y : V} {u : Value}
/-- self.f = y -/
theorem put_first {Q : Unit → Shared → Prop} {E : Value → Shared → Prop} {A : Around} (T : IniC X.K C fI f) (I : Inv X pins σ H s) (e : H a = some (exo a C none)) (ry : L2.RelV y u)
    (h : ∀ dx s', H dx = none → dx ≠ a → Inv X pins σ (upd (upd H dx (exd dx [(f, y)])) a (exo a C (some dx))) s' → Q () s') : wpAny (model X.prog X.w) A (setAttr (.ref a) f u) Q E s := by
  obtain ⟨B, B', newId, initId, bmF, bmB, cd, _, SF, _, ov, hcl, hdct⟩ := T.ex
  obtain ⟨t1, ho⟩ := exo_at I.hok e
  obtain ⟨hp, g, d, t, os⟩ := s
  refine PySem.W.set_plain I.kIn (ox := { cls := .ref C, dict := none, data := .fields #[.ref t1, .none, .none, .none, .bool false, .none] }) (od := none) ⟨ho, rfl, rfl, trivial⟩ T.sa ?_
  refine osa_first SF I.kIn ho ov hcl hdct T.tak (fun h' tk' dx k dn dne hx hn => ?_)
  have free : H dx = none := I.hok.fresh dn
  have old : ∀ {b : Addr} {o : Obj}, hp.get? b = some o → b ≠ dx := fun {b o} z => Nat.ne_of_lt (Nat.lt_of_lt_of_le (Heap.lt_size z) dn)
  have off : ∀ {b : Addr}, H b = none → b ≠ a := fun {b} n z => by
    rw [z, e] at n
    cases n
  have grown : Un X.fs [] H (upd (upd H dx (exd dx [(f, y)])) a (exo a C (some dx))) hp h' := {
    keep := fun b o z n _ _ => k b o (off n) z
    slot := fun b o z n _ _ => ⟨o.slots, k b o (off n) z⟩
    free := fun b o z n _ => by
      rw [upd_ne (off n), upd_ne (old z)]
      exact n
    there := fun b o z _ => by
      by_cases hb : b = a
      · rw [hb]
        exact ⟨_, hx⟩
      · exact ⟨o, k b o hb z⟩
    tups := fun b xs z => by
      rw [upd_ne (at_ne e z exo_tup), upd_ne (ne_of_none z free)]
      exact z
    frzs := fun b o v z => by
      rw [upd_ne (at_ne e z exo_frz), upd_ne (ne_of_none z free)]
      exact z
    tbls := fun b ps z => ⟨#[], by
      rw [upd_ne (at_ne e z exo_tbl), upd_ne (ne_of_none z free), z]
      simp⟩ }
  refine h dx _ free dne (I.un (t' := tk') grown fun b o z => ?_)
  by_cases hb : b = a
  · subst hb
    rw [upd_same] at z
    cases z
    exact exo_ok hx
  · rw [upd_ne hb] at z
    by_cases hd : b = dx
    · subst hd
      rw [upd_same] at z
      cases z
      exact exd_ok hn (relO_put (fs := []) ry fun g => True.intro)
    · rw [upd_ne hd] at z
      refine (I.hok b o z).stay (fun c v hc z2 => k c v ?_ z2) (fun c hc => ?_) (fun c xs hc => ?_)
      · rcases hc with hc | hc
        · rw [hc]
          exact hb
        · exact at_ne e hc exo_own
      · rw [upd_ne (at_ne e hc exo_own), upd_ne (ne_of_none hc free)]
        exact hc
      · rw [upd_ne (at_ne e hc exo_tup), upd_ne (ne_of_none hc free)]
        exact hc
/-- X(e), X's __init__ being self.f = value -/
structure IniD (K : PySem.W.Frag) (C : Addr) (f : Str) : Prop where
  ex : ∃ (fI : Addr) (self val qual : Str) (params : Arguments) (scope : Scope) (dV kV doc pm cdv ct oc : Value) (an od : Option Addr) (osl : Array (Option Value)) (p1 p2 p3 p4 : Pos), IniC K C fI f ∧
    K.lookup fI = some ⟨oc, od, .func (PySem.W.fnOf "__init__" qual params [.Assign [.Attribute (.Name self p1) f p2] (.Name val p3) p4] scope dV kV doc pm an cdv ct), osl⟩ ∧ PySem.W.codeIn K cdv qual = true ∧
    Binds K (PySem.W.fnOf "__init__" qual params [.Assign [.Attribute (.Name self p1) f p2] (.Name val p3) p4] scope dV kV doc pm an cdv ct) [self, val] [] ∧ FnScope [self, val] [self, val] scope ∧
    Vis scope self ∧ Vis scope val ∧ (self == ("__debug__" : Str)) = false ∧ (self == ("__classdict__" : Str)) = false ∧ (val == ("__debug__" : Str)) = false ∧ (val == ("__classdict__" : Str)) = false
theorem pmk_ini {x : Str} {e : Expr} {te : TE} {k : Nat} {p1 pos : Pos} (T : IniD X.K C f) (hr : Room (k + 2) X.A) (hg : Gl X x) (hm : X.mg x = some (.ref C)) (he : PE X e te) (hdb : (x == ("__debug__" : Str)) = false) (hst : ∀ es, starEach (e :: es) X.env = (false, eval e X.env) :: starEach es X.env) :
    PMk X (.Call (.Name x p1) [e] [] pos) (fun σ H Q => te σ H fun v H1 => ∀ d, H1 d = none → Q (.ref C) (some d) (upd H1 d (.xd [(f, v)]))) := by
  intro pins s σ H Q I h
  obtain ⟨fI, self, val, qual, params, scope, dV, kV, doc, pm, cdv, ct, oc, an, od, osl, z1, z2, z3, z4, T, lk, hcd, hb, S, v1, v2, n1, n2, n3, n4⟩ := T.ex
  obtain ⟨B, B', newId, initId, bmF, bmB, cd, FB, SF, ei, ov, hcl, hdct⟩ := T.ex
  refine wpAny_Call_Name_kw (ld_glob I hg hm ?_ hdb)
  have pa : PA X [e] (tCons te tNil) := pa_cons he pa_nil (hst [])
  refine PySem.W.callWith_K (h₀ := X.base) I.ok.mod.kin T.kC (thn (pa.run pos pins s σ H (fun vs H1 => ∃ v, vs = [v] ∧ ∀ d, H1 d = none → Q (.ref C) (some d) (upd H1 d (.xd [(f, v)]))) I ?_) fun us s1 ⟨vs, H1, I1, r1, v, ev, q1⟩ => ⟨I1.kIn, ?_⟩) (hst []) (by rfl)
  · have : te σ H (fun x H1 => ∃ v, [x] = [v] ∧ ∀ d, H1 d = none → Q (.ref C) (some d) (upd H1 d (.xd [(f, v)]))) := by
      have e2 : (fun x H1 => ∃ v, [x] = [v] ∧ ∀ d, H1 d = none → Q (.ref C) (some d) (upd H1 d (.xd [(f, v)]))) = fun v H1 => ∀ d, H1 d = none → Q (.ref C) (some d) (upd H1 d (.xd [(f, v)])) := by
        funext x H1
        refine propext ⟨fun ⟨v, e, q⟩ => ?_, fun q => ⟨x, rfl, q⟩⟩
        cases e
        exact q
      rw [e2]
      exact h
    exact this
  · subst ev
    obtain ⟨u, rfl, ru⟩ := vals1 r1
    show wpAny _ _ (call (.ref C) [u]) _ _ _
    obtain ⟨hp, g, dr, tk, os⟩ := s1
    obtain ⟨nm, N, qn, bs, bm, hdct', sn, sub, ab, col, dd, k0, k1, k2, k3, k5, hC, hT⟩ := PySem.W.excInit_of I1.kIn ei
    have gr : hp.objs.size ≤ hp.objs.size + 1 := Nat.le_succ _
    have hn : H1 (hp.objs.size + 1) = none := I1.hok.fresh gr
    have kk : ∀ b o, hp.get? b = some o → ((hp.push (PySem.W.kdv_tup [u])).push (PySem.HandSPX.excO C hp.objs.size)).get? b = some o := fun b o e => Heap.get?_push_of_some _ (Heap.get?_push_of_some _ e)
    have hget : ((hp.push (PySem.W.kdv_tup [u])).push (PySem.HandSPX.excO C hp.objs.size)).get? (hp.objs.size + 1) = some (PySem.HandSPX.excO C hp.objs.size) := by heap_get
    have I2 : Inv X pins σ (upd H1 (hp.objs.size + 1) (exo (hp.objs.size + 1) C none)) ⟨(hp.push (PySem.W.kdv_tup [u])).push (PySem.HandSPX.excO C hp.objs.size), g, dr, tk, os⟩ :=
      I1.laid (t' := tk) (a := hp.objs.size + 1) (o := exo (hp.objs.size + 1) C none) (h' := (hp.push (PySem.W.kdv_tup [u])).push (PySem.HandSPX.excO C hp.objs.size)) kk gr (exo_ok hget)
    refine wpAny_call (own_call FB hT hC (PySem.W.looks_findIn I1.kIn T.ini) (fun self => PySem.W.bind_fn I1.kIn self T.tI) (by show 1 ≤ sizeLine; decide) ?_)
    have hr1 : Room (k + 1) (X.A.under (.builtin "type.__call__" ⟨.ref C :: [u], []⟩)) := hr.make C [u] []
    refine codeAny_mono (LamX.run_ofS (CX := L2.CX X.prog X.w) (K := X.K) (mg := X.mg) (base := X.base) (N := [self, val]) (ps := [self, val]) (us := [.ref (hp.objs.size + 1), u]) (vs := [.ref (hp.objs.size + 1), v])
      (Q := fun w H2 => w = .non ∧ ∃ d, H1 d = none ∧ d ≠ hp.objs.size + 1 ∧ H2 = upd (upd (upd H1 (hp.objs.size + 1) (exo (hp.objs.size + 1) C none)) d (exd d [(f, v)])) (hp.objs.size + 1) (exo (hp.objs.size + 1) C (some d))) (E := fun _ _ _ => False)
      lk hcd S hr1 (I2.env0.make C [u] []) (hb _ [.ref (hp.objs.size + 1), u] I2.kIn rfl) (.cons rfl (.cons ru .nil)) rfl fun hr2 => ?_) fun r s' hq => ?_
    · refine ⟨fun D σ' H' => σ' = L2.start [self, val] [.ref (hp.objs.size + 1), v] ∧ H' (hp.objs.size + 1) = some (exo (hp.objs.size + 1) C none) ∧ ∀ d, H' d = none → d ≠ hp.objs.size + 1 → D.nx σ' (upd (upd H' d (exd d [(f, v)])) (hp.objs.size + 1) (exo (hp.objs.size + 1) C (some d))), ?_, rfl, upd_same, fun d h1 h2 => ?_⟩
      · refine pss_one ⟨fun pz sz σz Hz D Iz ⟨e1, e2, e3⟩ => ?_⟩
        refine plainObj_wpAny_Assign_Attribute (thn ((pe_var (i := 1) (x := val) (by rfl) v2 n3 n4).run pz sz σz Hz (fun y H => y = v ∧ H = Hz) Iz ⟨v, by rw [e1]; rfl, rfl, rfl⟩) fun uv s2 ⟨y, H2, J2, r2, e4, e5⟩ => ?_) (by rfl)
        subst e4 e5
        refine thn ((pe_var (i := 0) (x := self) (by rfl) v1 n1 n2).run pz s2 σz H2 (fun y H => y = .ref (hp.objs.size + 1) ∧ H = H2) J2 ⟨.ref (hp.objs.size + 1), by rw [e1]; rfl, rfl, rfl⟩) fun us s3 ⟨y3, H3, J3, r3, e6, e7⟩ => ?_
        subst e6 e7
        cases (show us = Value.ref (hp.objs.size + 1) from r3)
        exact put_first T J3 e2 r2 fun dx s4 w1 w2 J4 => ⟨σz, _, J4, e3 dx w1 w2⟩
      · rw [upd_ne h2] at h1
        exact ⟨rfl, d, h1, h2, rfl⟩
    · match r, hq with
      | .error er, hq => 
        obtain ⟨_, _, _, _, _, _, _, _, _, _, _, _, z⟩ := hq
        exact z.elim
      | .ok (.ret w'), hq =>
        obtain ⟨w, H2, os2, bare2, un2, hok2, rv, ev, d, hd1, hda, eH⟩ := hq
        subst ev
        subst eH
        obtain ⟨h2, g2, d2, t2, os'⟩ := s'
        refine ⟨rv, mk_end (d := d) (fs := [(f, v)]) (raises_own T.exC T.tyC) I1 gr kk un2 hok2 os2 bare2 upd_same (by rw [upd_ne hda, upd_same]) hd1 ?_⟩
        have e8 : upd (del (upd (upd (upd H1 (hp.objs.size + 1) (exo (hp.objs.size + 1) C none)) d (exd d [(f, v)])) (hp.objs.size + 1) (exo (hp.objs.size + 1) C (some d))) (hp.objs.size + 1)) d (.xd [(f, v)]) = upd H1 d (.xd [(f, v)]) := by
          funext b
          by_cases hb : b = d
          · rw [hb, upd_same, upd_same]
          · rw [upd_ne hb, upd_ne hb]
            by_cases h3 : b = hp.objs.size + 1
            · rw [h3, del_same, hn]
            · rw [del_ne h3, upd_ne h3, upd_ne hb, upd_ne h3]
        rw [e8]
        exact q1 d hd1
      | .ok .next, hq => exact False.elim hq
      | .ok .brk, hq => exact False.elim hq
      | .ok .cont, hq => exact False.elim hq
end
end MX
namespace MX
open PySem PySem.Spec PySem.W PyProof.Rows L2
/-! ### isinstance of an exception that is held as a value, with or without own fields -/
section
variable {prog : Program} {w : World} {A : Around} {E : Value → Shared → Prop} {s : Shared} {K : Frag} {x D : Addr} {ox : Obj} {od : Option Obj}
theorem found_cls (T : ExcC K D) : findObj K D od "__class__" = some (.bind (.builtin "getset_descriptor.__get__") (.builtin "object.__class__")) := by
  obtain ⟨cd, hc, _⟩ := any_some T.hd
  unfold findObj
  rw [hc, Option.bind_some, T.ha, Option.bind_some]
  simp [T.hn, T.ht]
theorem cls_read {Q : Option Value → Shared → Prop} (T : ExcC K D) (X : K.In s.heap) (I : InstAt s.heap x ox D od) (h : Q (some (.ref D)) { s with toks := s.toks + 1 }) : wpAny (model prog w) A (getAttr? (.ref x) "__class__") Q E s := by
  obtain ⟨hp, gs, dr, tk, os⟩ := s
  have ty := I.type (M := model prog w)
  have isX : Looks (model prog w) hp (isInstance (.ref x) (.type "BaseException")) true := ty.andThen (looks_subIn X T.hs)
  have other : (onTheHeap (Value.ref D) && Value.builtin "BaseException.__getattribute__" == Value.builtin "object.__getattribute__") = false := by
    rw [show (Value.builtin "BaseException.__getattribute__" == Value.builtin "object.__getattribute__") = false from by decide +kernel, Bool.and_false]
  unfold getAttr? getAttrBy? getAttrBy
  refine wpAny_bind <| wpAny_mkText <| wpAny_bind <| wpAny_attempt <| wpAny_holding <| wpAny_bind <| ty.at <| wpAny_bind <| (looks_findIn (M := model prog w) X T.hg).at ?_
  change wpAny _ _ (ite ((onTheHeap (Value.ref D) && Value.builtin "BaseException.__getattribute__" == Value.builtin "object.__getattribute__") = true) _ _) _ _ _
  rw [other]
  simp only [Bool.false_eq_true, if_false, getAttrByItsOwn, hookBefore]
  refine wpAny_bind ?_
  rw [show onTheHeap (Value.ref D) = true from rfl]
  simp only [if_true]
  refine (looks_findIn (M := model prog w) X T.hk).at <| wpAny_bind <| wpAny_attempt <| wpAny_holding ?_
  simp only [callGetattribute, Bool.false_and, Bool.false_eq_true, if_false, boundAndCalled]
  rw [PySem.F.excAttr_ValueError.ga.bind (.ref x)]
  refine wpAny_bind <| wpAny_pure ?_
  change wpAny _ _ (call (.builtin "BaseException.__getattribute__") [.ref x, .str "__class__" tk]) _ _ _
  refine wpAny_call <| codeAny_call_builtin PySem.F.excAttr_ValueError.ga.plain PySem.F.entry_bexc_ga <| @check_slot (model prog w) _ _ ⟨hp, gs, dr, tk + 1, os⟩ "BaseException.__getattribute__" "BaseException" "__getattribute__" (.ref x) [.str "__class__" tk] [] _ (by decide +kernel) (by decide +kernel) isX (PySem.F.args_bexc_ga (.ref x) (.str "__class__" tk)) ?_
  unfold Builtin.«object.__getattribute__»
  refine wpAny_bind <| wpAny_of_eq (a := ((Value.ref x : Value), [Value.str "__class__" tk])) (by first | rfl | (simp only [slotArgs]; rfl)) <| wpAny_bind <| wpAny_pure <| wpAny_bind <| ty.at <| wpAny_bind <| (looks_find (M := model prog w) X I (found_cls T)).at ?_
  change wpAny _ _ (holding [Value.builtin "object.__class__"] (call (.builtin "getset_descriptor.__get__") [.builtin "object.__class__", .ref x, .ref D]) >>= ret) _ _ _
  refine wpAny_bind <| wpAny_holding <| wpAny_call <| class_get (s := ⟨hp, gs, dr, tk + 1, os⟩) (ox := ox) (od := od) X I T.hm <| wpAny_pure ?_
  change wpAny _ _ (handedOut (.ref D)) _ _ _
  rw [handedOut_of (v := .ref D) rfl]
  first
    | exact wpAny_pure (wpAny_pure h)
    | exact wpAny_pure h
    | exact (wpAny_pure <| wpAny_bind <| wpAny_pure <| wpAny_pure h)
theorem kit_exc (T : ExcC K D) : KitX K (.ref x) (.ref D) (fun h => ∃ ox od, InstAt h x ox D od) := by
  obtain ⟨cd, hc, _⟩ := any_some T.hd
  obtain ⟨c, d, sl, look⟩ : ∃ c d sl, K.lookup D = some ⟨c, d, .cls cd, sl⟩ := by
    unfold clsIn at hc
    split at hc
    · next c d q sl e =>
      cases hc
      exact ⟨c, d, sl, e⟩
    · cases hc
  refine ⟨fun M h _ ⟨ox, od, I⟩ => I.type, fun M h X _ A Q E s k q => ?_, fun h tp dd its n sl2 X e => ?_, fun X ⟨ox, od, I⟩ q => cls_read T X I q⟩
  · unfold isType loadHead
    exact wpAny_bind <| wpAny_loadPart (k _ _ (X _ _ look)) <| wpAny_pure q
  · cases z : (Value.ref D == Value.ref tp) with
    | false => rfl
    | true =>
      have z : Value.ref D = Value.ref tp := eq_of_beq z
      cases z
      have a := X _ _ look
      rw [e] at a
      cases a
/-- an exception that is held: its own object -/
theorem held0 {X : Cx} {pins : List (Addr × Obj)} {σ : L2.St} {H : Hp} {s : Shared} {a C : Addr} (I : Inv X pins σ H s) (e : H a = some (ExO (.ref C) a)) : ∃ ox od, InstAt s.heap a ox C od := by
  obtain ⟨⟨oe, vs, g, z, d, _⟩, _⟩ := I.hok a _ e
  refine ⟨oe, none, g, z.1, ?_, ?_⟩
  · unfold notCls
    rw [d]
  · rw [z.2]
    trivial
theorem held1 {X : Cx} {pins : List (Addr × Obj)} {σ : L2.St} {H : Hp} {s : Shared} {a C dd : Addr} {f : Str} {v : V} (I : Inv X pins σ H s) (e : H a = some (exo a C (some dd))) (e2 : H dd = some (exd dd [(f, v)])) :
    ∃ ox od u, InstAt s.heap a ox C (some od) ∧ lookIn f od = some (some u) ∧ L2.RelV v u := by
  obtain ⟨t1, g⟩ := exo_at I.hok e
  obtain ⟨⟨mA, hns, hr⟩, _⟩ := I.hok dd _ e2
  obtain ⟨od, ho, hl⟩ := lookIn_ns hns
  have r := hr f
  have lk : ([(f, v)] : List (Str × V)).lookup f = some v := by simp [List.lookup]
  obtain ⟨u, hu, ru⟩ := RelO.some_of (v := v) (o := mA f) (by rw [← lk]; exact r)
  exact ⟨_, od, u, ⟨g, rfl, rfl, ho⟩, by rw [hl, hu], ru⟩
/-- the class that a name of the module's own stands for -/
structure IsC (K : Frag) (c : Str) (C : Addr) : Prop where
  ns : nsIn K mainGlobals c = some (some (.ref C))
theorem IsC.one {c : Str} {C C' : Addr} (a : nsIn K mainGlobals c = some (some (.ref C))) (b : nsIn K mainGlobals c = some (some (.ref C'))) : C = C' := by
  rw [a] at b
  cases b
  rfl
/-- isinstance(e, X) for an exception value -/
theorem isx_run {X : Cx} {pins : List (Addr × Obj)} {σ : L2.St} {H : Hp} {s : Shared} {ρ : List Addr} {c f : Str} {xs : List MX.D} {v : V} {u cv : Value} {C : Addr} {b : Bool} {Q : VK}
    (I : Inv X pins σ H s) (T : ExcC X.K C) (g : nsIn X.K mainGlobals c = some (some (.ref C))) (r : VRel X.K ρ H (.exn c f xs) v) (ru : L2.RelV v u) (e : kitOne X.K (.ref C) cv = some b) (q : Q (.bl b) H) :
    wpAny (model X.prog X.w) X.A (call (.builtin "isinstance") [u, cv]) (EP X pins σ Q) X.xe s := by
  have go : ∀ {a : Addr}, (∃ ox od, InstAt s.heap a ox C od) → u = .ref a → wpAny (model X.prog X.w) X.A (call (.builtin "isinstance") [u, cv]) (EP X pins σ Q) X.xe s := fun {a} J eu => by
    subst eu
    exact kia_one (kit_exc T) I.kIn J e (fun z => nomatch z) fun tk => ⟨.bl b, H, I.tok _, rfl, q⟩
  cases r with
  | exn0 g2 h =>
    cases IsC.one g g2
    exact go (held0 I h) ru
  | exn1 g2 h h2 _ =>
    cases IsC.one g g2
    obtain ⟨ox, od, w, J, _⟩ := held1 I h h2
    exact go ⟨ox, some od, J⟩ ru
/-- e.f for an exception value with this field -/
theorem xfld_run {X : Cx} {pins : List (Addr × Obj)} {σ : L2.St} {H : Hp} {s : Shared} {ρ : List Addr} {c f : Str} {d : MX.D} {v : V} {u : Value} {C : Addr} {Q : VK}
    (I : Inv X pins σ H s) (T : XfC X.K C) (no : findIn X.K (.ref C) f = some none) (g : nsIn X.K mainGlobals c = some (some (.ref C))) (r : VRel X.K ρ H (.exn c f [d]) v) (ru : L2.RelV v u) (q : ∀ y, VRel X.K ρ H d y → Q y H) :
    wpAny (model X.prog X.w) X.A (getAttr u f true) (EP X pins σ Q) X.xe s := by
  cases r with
  | exn1 g2 h h2 rd =>
    cases IsC.one g g2
    obtain ⟨ox, od, w, J, lk, rw'⟩ := held1 I h h2
    obtain rfl : u = Value.ref _ := ru
    exact HandSPX.exc_get I.kIn J T.ga T.gg T.exC (findObj_own T.hdC no rfl lk) (handed_of rw') ⟨_, H, I.tok _, rw', q _ rd⟩
end
end MX
namespace MX
open PySem PySem.Spec PyProof.Rows L2
section
variable {X : Cx} {pins : List (Addr × Obj)} {σ : L2.St} {H : Hp} {s : Shared} {a C fI : Addr} {f : Str} {y : V} {u : Value}
theorem pe_xini {x : Str} {e : Expr} {te : TE} {k : Nat} {p1 pos : Pos} (T : IniD X.K C f) (hr : Room (k + 2) X.A) (hg : Gl X x) (hm : X.mg x = some (.ref C)) (he : PE X e te) (hdb : (x == ("__debug__" : Str)) = false) (hst : ∀ es, starEach (e :: es) X.env = (false, eval e X.env) :: starEach es X.env) :
    PE X (.Call (.Name x p1) [e] [] pos) (fun σ H Q => te σ H fun v H1 => ∀ a d, H1 a = none → H1 d = none → d ≠ a → Q (.ref a) (upd (upd H1 d (exd d [(f, v)])) a (exo a C (some d)))) := by
  refine ⟨fun pins s σ H Q I h => ?_⟩
  obtain ⟨fI, self, val, qual, params, scope, dV, kV, doc, pm, cdv, ct, oc, an, od, osl, z1, z2, z3, z4, T, lk, hcd, hb, S, v1, v2, n1, n2, n3, n4⟩ := T.ex
  obtain ⟨B, B', newId, initId, bmF, bmB, cd, FB, SF, ei, ov, hcl, hdct⟩ := T.ex
  refine wpAny_Call_Name_kw (ld_glob I hg hm ?_ hdb)
  have pa : PA X [e] (tCons te tNil) := pa_cons he pa_nil (hst [])
  refine PySem.W.callWith_K (h₀ := X.base) I.ok.mod.kin T.kC (thn (pa.run pos pins s σ H (fun vs H1 => ∃ v, vs = [v] ∧ ∀ a d, H1 a = none → H1 d = none → d ≠ a → Q (.ref a) (upd (upd H1 d (exd d [(f, v)])) a (exo a C (some d)))) I ?_) fun us s1 ⟨vs, H1, I1, r1, v, ev, q1⟩ => ⟨I1.kIn, ?_⟩) (hst []) (by rfl)
  · have : te σ H (fun x H1 => ∃ v, [x] = [v] ∧ ∀ a d, H1 a = none → H1 d = none → d ≠ a → Q (.ref a) (upd (upd H1 d (exd d [(f, v)])) a (exo a C (some d)))) := by
      have e2 : (fun x H1 => ∃ v, [x] = [v] ∧ ∀ a d, H1 a = none → H1 d = none → d ≠ a → Q (.ref a) (upd (upd H1 d (exd d [(f, v)])) a (exo a C (some d)))) = fun v H1 => ∀ a d, H1 a = none → H1 d = none → d ≠ a → Q (.ref a) (upd (upd H1 d (exd d [(f, v)])) a (exo a C (some d))) := by
        funext x H1
        refine propext ⟨fun ⟨v, e, q⟩ => ?_, fun q => ⟨x, rfl, q⟩⟩
        cases e
        exact q
      rw [e2]
      exact h
    exact this
  · subst ev
    obtain ⟨u, rfl, ru⟩ := vals1 r1
    show wpAny _ _ (call (.ref C) [u]) _ _ _
    obtain ⟨hp, g, dr, tk, os⟩ := s1
    obtain ⟨nm, N, qn, bs, bm, hdct', sn, sub, ab, col, dd, k0, k1, k2, k3, k5, hC, hT⟩ := PySem.W.excInit_of I1.kIn ei
    have gr : hp.objs.size ≤ hp.objs.size + 1 := Nat.le_succ _
    have hn : H1 (hp.objs.size + 1) = none := I1.hok.fresh gr
    have kk : ∀ b o, hp.get? b = some o → ((hp.push (PySem.W.kdv_tup [u])).push (PySem.HandSPX.excO C hp.objs.size)).get? b = some o := fun b o e => Heap.get?_push_of_some _ (Heap.get?_push_of_some _ e)
    have hget : ((hp.push (PySem.W.kdv_tup [u])).push (PySem.HandSPX.excO C hp.objs.size)).get? (hp.objs.size + 1) = some (PySem.HandSPX.excO C hp.objs.size) := by heap_get
    have I2 : Inv X pins σ (upd H1 (hp.objs.size + 1) (exo (hp.objs.size + 1) C none)) ⟨(hp.push (PySem.W.kdv_tup [u])).push (PySem.HandSPX.excO C hp.objs.size), g, dr, tk, os⟩ :=
      I1.laid (t' := tk) (a := hp.objs.size + 1) (o := exo (hp.objs.size + 1) C none) (h' := (hp.push (PySem.W.kdv_tup [u])).push (PySem.HandSPX.excO C hp.objs.size)) kk gr (exo_ok hget)
    refine wpAny_call (own_call FB hT hC (PySem.W.looks_findIn I1.kIn T.ini) (fun self => PySem.W.bind_fn I1.kIn self T.tI) (by show 1 ≤ sizeLine; decide) ?_)
    have hr1 : Room (k + 1) (X.A.under (.builtin "type.__call__" ⟨.ref C :: [u], []⟩)) := hr.make C [u] []
    refine codeAny_mono (LamX.run_ofS (CX := L2.CX X.prog X.w) (K := X.K) (mg := X.mg) (base := X.base) (N := [self, val]) (ps := [self, val]) (us := [.ref (hp.objs.size + 1), u]) (vs := [.ref (hp.objs.size + 1), v])
      (Q := fun w H2 => w = .non ∧ ∃ d, H1 d = none ∧ d ≠ hp.objs.size + 1 ∧ H2 = upd (upd (upd H1 (hp.objs.size + 1) (exo (hp.objs.size + 1) C none)) d (exd d [(f, v)])) (hp.objs.size + 1) (exo (hp.objs.size + 1) C (some d))) (E := fun _ _ _ => False)
      lk hcd S hr1 (I2.env0.make C [u] []) (hb _ [.ref (hp.objs.size + 1), u] I2.kIn rfl) (.cons rfl (.cons ru .nil)) rfl fun hr2 => ?_) fun r s' hq => ?_
    · refine ⟨fun D σ' H' => σ' = L2.start [self, val] [.ref (hp.objs.size + 1), v] ∧ H' (hp.objs.size + 1) = some (exo (hp.objs.size + 1) C none) ∧ ∀ d, H' d = none → d ≠ hp.objs.size + 1 → D.nx σ' (upd (upd H' d (exd d [(f, v)])) (hp.objs.size + 1) (exo (hp.objs.size + 1) C (some d))), ?_, rfl, upd_same, fun d h1 h2 => ?_⟩
      · refine pss_one ⟨fun pz sz σz Hz D Iz ⟨e1, e2, e3⟩ => ?_⟩
        refine plainObj_wpAny_Assign_Attribute (thn ((pe_var (i := 1) (x := val) (by rfl) v2 n3 n4).run pz sz σz Hz (fun y H => y = v ∧ H = Hz) Iz ⟨v, by rw [e1]; rfl, rfl, rfl⟩) fun uv s2 ⟨y, H2, J2, r2, e4, e5⟩ => ?_) (by rfl)
        subst e4 e5
        refine thn ((pe_var (i := 0) (x := self) (by rfl) v1 n1 n2).run pz s2 σz H2 (fun y H => y = .ref (hp.objs.size + 1) ∧ H = H2) J2 ⟨.ref (hp.objs.size + 1), by rw [e1]; rfl, rfl, rfl⟩) fun us s3 ⟨y3, H3, J3, r3, e6, e7⟩ => ?_
        subst e6 e7
        cases (show us = Value.ref (hp.objs.size + 1) from r3)
        exact put_first T J3 e2 r2 fun dx s4 w1 w2 J4 => ⟨σz, _, J4, e3 dx w1 w2⟩
      · rw [upd_ne h2] at h1
        exact ⟨rfl, d, h1, h2, rfl⟩
    · match r, hq with
      | .error er, hq => 
        obtain ⟨_, _, _, _, _, _, _, _, _, _, _, _, z⟩ := hq
        exact z.elim
      | .ok (.ret w'), hq =>
        obtain ⟨w, H2, os2, bare2, un2, hok2, rv, ev, d, hd1, hda, eH⟩ := hq
        subst ev
        subst eH
        obtain ⟨h2, g2, d2, t2, os'⟩ := s'
        refine ⟨rv, I2.after ⟨.ref (hp.objs.size + 1), _, os2, bare2, un2, hok2, rfl, ?_⟩⟩
        have e8 : upd (upd (upd H1 (hp.objs.size + 1) (exo (hp.objs.size + 1) C none)) d (exd d [(f, v)])) (hp.objs.size + 1) (exo (hp.objs.size + 1) C (some d)) = upd (upd H1 d (exd d [(f, v)])) (hp.objs.size + 1) (exo (hp.objs.size + 1) C (some d)) := by
          funext b
          by_cases h3 : b = hp.objs.size + 1
          · rw [h3, upd_same, upd_same]
          · rw [upd_ne h3, upd_ne h3]
            by_cases hb : b = d
            · rw [hb, upd_same, upd_same]
            · rw [upd_ne hb, upd_ne hb, upd_ne h3]
        rw [e8]
        exact q1 _ d hn hd1 hda
      | .ok .next, hq => exact False.elim hq
      | .ok .brk, hq => exact False.elim hq
      | .ok .cont, hq => exact False.elim hq
end
end MX
set_option maxHeartbeats 4000000
set_option maxHeartbeats 4000000
/-! The mirror is sound: expressions. -/
namespace MX
open PySem PySem.Spec PyProof.Rows L2

/-- what the i-th def promises, called at level n + 1: what the mirror says -/
def spF (L : Lk) (n i : Nat) (ps : List Str) : Sp := fun vs H Q E => vs.length = ps.length ∧ ∃ ρ h ds, Rep L ρ h H ∧ VRels L.K ρ H ds vs ∧ res L (VR L) ρ H ((mkCl L.pg (tabs L.pg n)).call i ds h) Q E
/-- what a call of a def binds: its values, then the defaults -/
def BindX (L : Lk) (fd : FuncData) (ps : List Str) (ds : List D) : Prop := ∃ (ws : List Value) (zs : List V), Binds L.K fd ps ws ∧ Vals zs ws ∧ ∀ ρ H, VRels L.K ρ H ds zs
theorem BindX.all0 {L : Lk} {fd : FuncData} {ps : List Str} (h : BindX L fd ps []) : Binds L.K fd ps [] := by
  obtain ⟨ws, zs, b, v, r⟩ := h
  have := r [] (fun _ => Option.none)
  cases this
  cases v
  exact b
theorem BindX.mk0 {L : Lk} {fd : FuncData} {ps : List Str} (h : Binds L.K fd ps []) : BindX L fd ps [] := ⟨[], [], h, .nil, fun _ _ => .nil⟩
/-- what a def promises that is handed the exception which is handled -/
structure FnX (L : Lk) (P : Program) (w : World) (base : Heap) (m i : Nat) (f : Addr) (fd : FuncData) (ps : List Str) : Prop where
  len : ps.length = 1
  run : ∀ (A : Around) (outer : List PySem.Env) (s : Shared) (H : Hp) (args : Args) (e : Addr) (oe : Obj) (cls : Value) (d : Option Addr) (Q : VK) (E : XK) (y : XV) (ρ : List Addr) (h : Hh), L2H.RoomH (m + 1) A → A.guards = some [] → L2H.PinOk outer H s (e, oe) → Zc cls d oe → (∃ vs, oe.data = .fields vs) →
    Env0 P w L.K L.mg base A outer s H → BindsTo s fd args (ps.zip [.ref e]) → Rep L ρ h H → XRel L ρ H y cls d → res L (VR L) ρ H ((mkCl L.pg (tabs L.pg m)).callH i y h) Q (fun _ _ _ => False) →
    codeAny (model P w) A (.call (.ref f) args) (CR (L2.CX P w) outer P w H s Q E) s
structure FnHS (L : Lk) (P : Program) (w : World) (base : Heap) (m i : Nat) : Prop where
  ex : ∃ (a : Addr) (fd : FuncData) (ps : List Str), L.fa i = a ∧ PySem.W.keepIn L.K (.ref a) = true ∧ Binds L.K fd ps [] ∧ FnX L P w base m i a fd ps
structure FnS (L : Lk) (P : Program) (w : World) (base : Heap) (n i : Nat) (x : Str) : Prop where
  ex : ∃ (a : Addr) (fd : FuncData) (ps : List Str), L.fa i = a ∧ PySem.W.keepIn L.K (.ref a) = true ∧ BindX L fd ps (L.pg.dfl i) ∧ FnM P w L.K L.mg base (n + 1) a fd ps (spF L n i ps) ∧
    ∀ fd, L.pg.fns[i]? = some fd → fd.np = ps.length
/-- the module's names, as they stand -/
structure GbOk (L : Lk) (g : Gb) : Prop where
  gc : ∀ x d, g.gc.lookup x = some d → ∃ v u, L.mg x = some u ∧ L2.RelV v u ∧ ∀ ρ H, VRel L.K ρ H d v
  bl : ∀ x, x ∈ g.bl → L.mg x = none
  fld : ∀ i x, g.fld[i]? = some x → L.fld i = x
  cls : ∀ x c, posOf g.cls x = some c → c < L.nc ∧ L.mg x = some (.ref (L.clA c))
  sub : ∀ i c, i < L.nc → c < L.nc → PySem.W.exmOne L.K (.ref (L.clA i)) (.ref (L.clA c)) = some (L.pg.sub i c)
  exo : ∀ c, c < L.nc → g.ini[c]? = some none → ∃ (B newId initId : String) (bmB : List Value), ExcBaseFacts B newId initId bmB ∧ PySem.W.excIn L.K (L.clA c) bmB newId = true ∧ PySem.W.keepIn L.K (.ref (L.clA c)) = true ∧
    PySem.W.subIn L.K (.ref (L.clA c)) (.type "BaseException") = some true ∧ PySem.W.typeIn L.K (.ref (L.clA c)) = some (.type "type")
  exi : ∀ c f, c < L.nc → g.ini[c]? = some (some f) → IniD L.K (L.clA c) (L.fld f) ∧ XfC L.K (L.clA c) ∧ PySem.W.findIn L.K (.ref (L.clA c)) (L.fld f) = some none
  fnv : ∀ x i, posOf g.fns x = some i → ∃ a, L.mg x = some (.ref a) ∧ PySem.W.keepIn L.K (.ref a) = true ∧ L.fa i = a ∧ L.pg.dfl i = []
  icl : ∀ c, L.pg.inst c = true → Cls L.K (L.clI c)
  ifl : ∀ c f, L.pg.inst c = true → f ∈ g.ifl → NoAttr L.K (L.clI c) f
  mth : ∀ c m i, L.pg.inst c = true → m ∈ g.mns → L.pg.mth c m = some i → Meth L.K (L.clI c) m (L.fa i) ∧ L.pg.dfl i = [] ∧ ∃ x, (g.fns ++ g.mfn)[i]? = some x
  mkc : ∀ x c, posOf g.icn x = some c → L.pg.inst c = true ∧ L.mg x = some (.ref (L.clI c)) ∧ ∃ i, L.pg.ini c = some i ∧ Mk L.K (L.clI c) (L.fa i) ∧ ∃ x, (g.fns ++ g.mfn)[i]? = some x
  nsc : g.xv = true → ∀ x c, posOf g.cls x = some c → PySem.W.nsIn L.K mainGlobals x = some (some (.ref (L.clA c)))
  nam : ∀ c t b, c < L.nc → L.pg.isb (L.pg.nam c) t = some b → PySem.W.nsIn L.K mainGlobals (L.pg.nam c) = some (some (.ref (L.clA c)))
  xis : ∀ c t b, L.pg.isb c t = some b → ∃ C, PySem.W.nsIn L.K mainGlobals c = some (some (.ref C)) ∧ ExcC L.K C ∧
    ((∃ C', L.mg t = some (.ref C') ∧ PySem.W.kitOne L.K (.ref C) (.ref C') = some b) ∨ (L.mg t = none ∧ ∃ T, bootBuiltins t = some (.type T) ∧ PySem.W.kitOne L.K (.ref C) (.type T) = some b))
  xfd : ∀ c f, L.pg.xf c f = true → ∃ C, PySem.W.nsIn L.K mainGlobals c = some (some (.ref C)) ∧ XfC L.K C ∧ PySem.W.findIn L.K (.ref C) f = some none
/-- what the i-th def promises at level m + 1, handed a lambda: what the mirror says -/
structure ThkS (L : Lk) (P : Program) (w : World) (base : Heap) (m i : Nat) (x : Str) : Prop where
  ex : ∃ (a : Str) (g : Addr) (Ng : List Str) (pg : Arguments) (bg : List Stmt) (sg : Scope) (dV kV doc pm cdv ct oc : Value) (an od : Option Addr) (osl : Array (Option Value)), L.mg x = some (.ref g) ∧
    L.K.lookup g = some ⟨oc, od, .func (PySem.W.fnOf x x pg bg sg dV kV doc pm an cdv ct), osl⟩ ∧ PySem.W.codeIn L.K cdv x = true ∧ Binds L.K (PySem.W.fnOf x x pg bg sg dV kV doc pm an cdv ct) [a] [] ∧ FnScope Ng [a] sg ∧ Ng[0]? = some a ∧ Vis sg a ∧
    (a == ("__debug__" : Str)) = false ∧ (a == ("__classdict__" : Str)) = false ∧ (∀ fd, L.pg.fns[i]? = some fd → fd.ns = Ng.length) ∧
    ∀ (A : Around) (outer : List PySem.Env) (s : Shared) (H : Hp) (E : XK) (f : Addr) (ρ0 : List Addr) (H0 : Hp) (m0 : M D) (fd : FD), Room m (A.deeper (envOfC x sg s.heap.objs.size g cdv)) → A.guards = some [] → L.pg.fns[i]? = some fd →
      (∀ (pn : List (Addr × Obj)) (xe : Value → Shared → Prop) (W : WX) (q1 q2 : Pos), Takes ((cxOf (L2.CX P w) P w L.K L.mg base Ng x sg g cdv A outer s H E).tr pn xe) W →
        PE ((cxOf (L2.CX P w) P w L.K L.mg base Ng x sg g cdv A outer s H E).tr pn xe) (.Call (.Name a q1) [] [] q2) (tM L ⟨[(0, .ref f)], ρ0, H0⟩ (VR L) (fun _ => m0) W)) →
      fd.thk = true → PSs (cxOf (L2.CX P w) P w L.K L.mg base Ng x sg g cdv A outer s H E) bg (tS L ⟨[(0, .ref f)], ρ0, H0⟩ (exSs ⟨L.pg, tabs L.pg m, some m0, none⟩ fd.body) (fun c d _ H' => E c d H'))
theorem fns_at {g : Gb} {x : Str} {i : Nat} (h : posOf g.fns x = some i) : (g.fns ++ g.mfn)[i]? = some x := by
  have e := posOf_get h
  rw [List.getElem?_append_left (List.getElem?_eq_some_iff.mp e).1]
  exact e
/-- a context in which lambdas may be made -/
structure LamOk (L : Lk) (X : Cx) : Prop where
  tab : ∃ c P, LamX.TabB X.base X.mg c P ∧ X.env.code = .ref c ∧ (P, X.env.qual ++ "<lambda>") ∈ L.T ∧ ∀ q ∈ L.T, q.1 = P → q.2 = X.env.qual ++ "<lambda>"

/-- the exception that is handled, as a name tells it -/
structure AlF (L : Lk) (p : Pn) (X : Cx) (n : Nat) (nm : Str) (y : XV) : Prop where
  room : L2H.RoomH n X.A
  ex : ∃ (i : Nat) (a : Addr) (oe : Obj) (cls : Value) (d : Option Addr), X.N[i]? = some nm ∧ Vis X.env.scope nm ∧ (nm == ("__debug__" : Str)) = false ∧ (nm == ("__classdict__" : Str)) = false ∧ (i, V.ref a) ∈ p.pv ∧ (a, oe) ∈ X.pn ∧ Zc cls d oe ∧
    (∃ vs, oe.data = .fields vs) ∧ XRel L p.ρ0 p.H0 y cls d
/-- a context that the mirror speaks of -/
structure CxOk (L : Lk) (Γ : Cn) (n : Nat) (ev : Ev) (p : Pn) (X : Cx) : Prop where
  x0 : X0 L X
  gb : GbOk L Γ.g
  N : X.N = Γ.N
  nd : Γ.N.Nodup
  sc : X.env.scope = Γ.sc
  pin : p.pv.map (·.1) = Γ.pin
  room : Γ.hot = false → Room n X.A
  calm : Γ.hot = false → X.calm = true
  fn : ∀ x, Γ.fnc x = true → X.fn x = true
  pg : ev.pg = L.pg
  lev : ev.l = tabs L.pg n
  fns : ∀ k m, k + m + 1 = n → ∀ i x, (Γ.g.fns ++ Γ.g.mfn)[i]? = some x → FnS L X.prog X.w X.base m i x
  thk : ∀ x, Γ.thk = some x → ∃ m, ev.thk = some m ∧ ∀ (pn : List (Addr × Obj)) (xe : Value → Shared → Prop) (W : WX) (q1 q2 : Pos), Takes (X.tr pn xe) W → PE (X.tr pn xe) (.Call (.Name x q1) [] [] q2) (tM L p (VR L) (fun _ => m) W)
  xas : ∀ x, Γ.xas = some x → ∃ y, ev.xc = some y ∧ ∀ (f : Nat) (W : WX) (q1 q2 : Pos), PE X (.Attribute (.Name x q1) (L.fld f) q2) (tM L p (VR L) (fun _ => M.opt (y.fs.lookup f)) W)
  thks : ∀ k m, k + m + 1 = n → ∀ i x, posOf Γ.g.fns x = some i → x ∈ Γ.g.thks → ThkS L X.prog X.w X.base m i x
  lam : Γ.lam = true → LamOk L X
  hts : ∀ k m, k + m + 1 = n → ∀ i x, posOf Γ.g.fns x = some i → x ∈ Γ.g.hots → FnHS L X.prog X.w X.base m i
  xal : ∀ x, Γ.xal = some x → ∃ y, ev.xc = some y ∧ AlF L p X n x y

section
variable {L : Lk} {Γ : Cn} {n : Nat} {ev : Ev} {p : Pn} {X : Cx}
/-! ### the forms of composition -/
/-- run the first part of a bind -/
theorem tM_bind {α β γ δ : Type} {P : List Addr → Hp → α → β → Prop} {P' : List Addr → Hp → γ → δ → Prop} {m : Env → M α} {f : Env → α → M γ} {W : WX} {σ : L2.St} {H : Hp} {Q : δ → Hp → Prop}
    (h : tM L p P' (fun env => M.bind (m env) (f env)) W σ H Q) : tM L p P m W σ H (fun b H1 => ∃ ρ1 env h1 a, Rep L ρ1 h1 H1 ∧ ERel L.K ρ1 H1 env σ ∧ Past p ρ1 H1 ∧ P ρ1 H1 a b ∧ res L P' ρ1 H1 (f env a h1) Q (fun c d H' => W c d σ H')) := by
  obtain ⟨pn, ρ, env, h0, R, er, pa, r⟩ := h
  refine ⟨pn, ρ, env, h0, R, er, pa, (res.bind (P := P) r).mono fun b H1 => ?_⟩
  rintro ⟨ρ1, h1, a, e, R1, pr, r1⟩
  exact ⟨ρ1, env, h1, a, R1, er.mono e, pa.trans e, pr, r1⟩
/-- go on with a further part at a state that is reached -/
theorem tM_next {α β γ δ : Type} {P : List Addr → Hp → α → β → Prop} {P' : List Addr → Hp → γ → δ → Prop} {m : Env → M α} {f : Env → α → M γ} {W : WX} {σ : L2.St} {H : Hp} {Q : δ → Hp → Prop} {ρ : List Addr} {env : Env} {h : Hh}
    (pn : Pins p σ) (R : Rep L ρ h H) (er : ERel L.K ρ H env σ) (pa : Past p ρ H) (r : res L P' ρ H (M.bind (m env) (f env) h) Q (fun c d H' => W c d σ H')) {Q2 : β → Hp → Prop}
    (k : ∀ ρ1 H1 h1 a b, Ext ρ H ρ1 H1 → Rep L ρ1 h1 H1 → ERel L.K ρ1 H1 env σ → Past p ρ1 H1 → P ρ1 H1 a b → res L P' ρ1 H1 (f env a h1) Q (fun c d H' => W c d σ H') → Q2 b H1) : tM L p P m W σ H Q2 := by
  refine ⟨pn, ρ, env, h, R, er, pa, (res.bind (P := P) r).mono fun b H1 => ?_⟩
  rintro ⟨ρ1, h1, a, e, R1, pr, r1⟩
  exact k ρ1 H1 h1 a b e R1 (er.mono e) (pa.trans e) pr r1
theorem gl_of (C : CxOk L Γ n ev p X) {x : Str} (h : globB Γ.sc x = true) : Gl X x ∧ (x == ("__debug__" : Str)) = false ∧ (x == ("__classdict__" : Str)) = false ∧ x ≠ "__name__" := by
  unfold globB okN at h
  simp only [Bool.and_eq_true, decide_eq_true_eq, Bool.not_eq_true'] at h
  refine ⟨?_, h.2.1.1, h.2.1.2, by simpa using h.2.2⟩
  show X.env.scope.names.lookup x = _
  rw [C.sc]
  exact h.1
theorem vis_of (C : CxOk L Γ n ev p X) {x : Str} {i : Nat} (h : slotOf Γ x = some i) : X.N[i]? = some x ∧ Vis X.env.scope x ∧ (x == ("__debug__" : Str)) = false ∧ (x == ("__classdict__" : Str)) = false := by
  unfold slotOf at h
  split at h
  · next hb =>
    simp only [Bool.and_eq_true, okN, Bool.not_eq_true'] at hb
    refine ⟨by rw [C.N]; exact posOf_get h, ?_, hb.2.1.1, hb.2.1.2⟩
    rw [C.sc]
    unfold visB at hb
    have := hb.1
    split at this
    · next e => exact .inl e
    · next e => exact .inr (.inl e)
    · next e => exact .inr (.inr e)
    · cases this
  · cases h
theorem pe_slot (C : CxOk L Γ n ev p X) {x : Str} {i : Nat} {pos : Pos} (h : slotOf Γ x = some i) (W : WX) : PE X (.Name x pos) (tM L p (VR L) (evE ev (.slot i)) W) := by
  obtain ⟨h1, h2, h3, h4⟩ := vis_of C h
  refine PE.imp (pe_var h1 h2 h3 h4) fun σ H Q q => ?_
  obtain ⟨_, ρ, env, hh, R, er, _, r⟩ := q
  simp only [evE, M.opt] at r
  cases e : env[i]? with
  | none =>
    rw [e] at r
    exact r.elim
  | some o =>
    cases o with
    | none =>
      rw [e] at r
      exact r.elim
    | some d =>
      rw [e] at r
      obtain ⟨v, e1, e2⟩ := er.2 i d e
      exact ⟨v, e1, r.ret R e2⟩
theorem pe_con (C : CxOk L Γ n ev p X) {c : Const} {ce : CE} {j : Nat} {pos : Pos} (h : cConst c = some ce) (W : WX) : PE X (.Constant c j pos) (tM L p (VR L) (evE ev ce) W) := by
  cases c with
  | none =>
    cases h
    exact PE.imp pe_non fun σ H Q ⟨_, ρ, env, hh, R, er, _, r⟩ => r.ret R .non
  | bool b =>
    cases h
    exact PE.imp pe_bl fun σ H Q ⟨_, ρ, env, hh, R, er, _, r⟩ => r.ret R (.bl b)
  | int i =>
    cases h
    exact PE.imp pe_int fun σ H Q ⟨_, ρ, env, hh, R, er, _, r⟩ => r.ret R (.int i)
  | str x =>
    cases h
    exact PE.imp pe_str fun σ H Q ⟨_, ρ, env, hh, R, er, _, r⟩ => r.ret R (.str x)
  | _ => cases h
theorem pe_name (C : CxOk L Γ n ev p X) {x : Str} {ce : CE} {pos : Pos} (h : cName Γ x = some ce) (W : WX) : PE X (.Name x pos) (tM L p (VR L) (evE ev ce) W) := by
  unfold cName at h
  split at h
  · next i e =>
    cases h
    exact pe_slot C e W
  · split at h
    · next hg =>
      cases e : Γ.g.gc.lookup x with
      | none =>
        rw [e] at h
        cases h
      | some d =>
        rw [e] at h
        cases h
        obtain ⟨h1, h2, _, _⟩ := gl_of C hg
        obtain ⟨v, u, g1, g2, g3⟩ := C.gb.gc x d e
        exact PE.imp (pe_glob h1 (by rw [C.x0.mg]; exact g1) g2 h2) fun σ H Q ⟨_, ρ, env, hh, R, er, _, r⟩ => r.ret R (g3 ρ H)
    · cases h
/-- a two-place operation -/
theorem pe_bin2 (C : CxOk L Γ n ev p X) {a b : Expr} {ca cb : CE} {W : WX} (ha : PE X a (tM L p (VR L) (evE ev ca) W)) (hb : PE X b (tM L p (VR L) (evE ev cb) W)) {f : Value → Value → Sem Value} {g : D → D → M D} (ok : OpOk L f g)
    {pins : List (Addr × Obj)} {s : Shared} {σ : L2.St} {H : Hp} {Q : VK} (I : Inv X pins σ H s) (h : tM L p (VR L) (fun env => M.bind (evE ev ca env) fun x => M.bind (evE ev cb env) fun y => g x y) W σ H Q) :
    wpAny (model X.prog X.w) X.A (eval a X.env) (fun v s₁ => wpAny (model X.prog X.w) X.A (eval b X.env) (fun u s₂ => wpAny (model X.prog X.w) X.A (f v u) (EP X pins σ Q) X.xe s₂) X.xe s₁) X.xe s := by
  have pn := h.1
  refine bin ha hb I (tM_bind (P := VR L) h |> fun q => ?_) (R := fun x y H2 => ∃ ρ h d e, Rep L ρ h H2 ∧ VRel L.K ρ H2 d x ∧ VRel L.K ρ H2 e y ∧ res L (VR L) ρ H2 (g d e h) Q (fun c d H' => W c d σ H')) fun v u s2 x y H2 I2 rx ry ⟨ρ, h2, d, e, R, r1, r2, q⟩ => ?_
  · obtain ⟨_, ρ, env, h0, R, er, pa, r⟩ := q
    refine ⟨pn, ρ, env, h0, R, er, pa, r.mono fun x H1 => ?_⟩
    rintro ⟨ρ1, env1, h1, d, R1, er1, pa1, rd, r1⟩
    exact tM_next (P := VR L) (m := evE ev cb) (f := fun _ y => g d y) pn R1 er1 pa1 r1 fun ρ2 H2 h2 e y e2 R2 _ _ re r2 => ⟨ρ2, h2, d, e, R2, rd.mono e2, re, r2⟩
  · exact ok X pins s2 σ H2 x y v u Q _ ρ h2 d e C.x0 I2 rx ry R r1 r2 q

theorem bop_ok {op : Operator} {o : BOp} (h : cBop op = some o) : OpOk L (binaryOp op) (binD o) := by
  cases op <;> first
    | (cases h; exact add_ok L)
    | (cases h; exact sub_ok L)
    | (cases h; exact mul_ok L)
    | (cases h; exact fdiv_ok L)
    | (cases h; exact mod_ok L)
    | (cases h; exact pow_ok L)
    | cases h
theorem cop_ok {op : CmpOp} {o : COp} (h : cCop op = some o) : OpOk L (compareOp op) (cmpD o) := by
  cases op <;> first
    | (cases h; exact cmp_ok L _)
    | cases h
theorem pe_bop (C : CxOk L Γ n ev p X) {a b : Expr} {ca cb : CE} {W : WX} {op : Operator} {o : BOp} {pos : Pos} (h : cBop op = some o) (ha : PE X a (tM L p (VR L) (evE ev ca) W)) (hb : PE X b (tM L p (VR L) (evE ev cb) W)) :
    PE X (.BinOp a op b pos) (tM L p (VR L) (evE ev (.bin o ca cb)) W) :=
  ⟨fun pins s σ H Q I q => wpAny_BinOp (pe_bin2 C ha hb (bop_ok h) I q)⟩
/-- a comparison's answer is a truth -/
theorem cmp_bl {o : COp} {a b : D} {h h' : Hh} {d : D} (e : cmpD o a b h = .ok d h') : ∃ k, d = .bl k := by
  cases o <;> simp only [cmpD] at e <;> split at e <;> first | (cases e; exact ⟨_, rfl⟩) | cases e
theorem pe_cmpM (C : CxOk L Γ n ev p X) {a b : Expr} {ca cb : CE} {W : WX} {op : CmpOp} {o : COp} {pos : Pos} (h : cCop op = some o) (hs : behindInMarks op b = false) (ha : PE X a (tM L p (VR L) (evE ev ca) W)) (hb : PE X b (tM L p (VR L) (evE ev cb) W)) :
    PE X (.Compare a [op] [b] pos) (tM L p (VR L) (evE ev (.cmp o ca cb)) W) :=
  ⟨fun pins s σ H Q I q => wpAny_Compare1 (pe_bin2 C ha hb (cop_ok h) I q) hs⟩
/-- the truth of what is handed back -/
theorem tru_run (C : CxOk L Γ n ev p X) {pins : List (Addr × Obj)} {s : Shared} {σ : L2.St} {H : Hp} {Q : Bool → Hp → Prop} {W : Value → Option Addr → Hp → Prop} {ρ : List Addr} {h : Hh} {d : D} {x : V} {u : Value} (I : Inv X pins σ H s) (rx : L2.RelV x u) (R : Rep L ρ h H)
    (r : VRel L.K ρ H d x) (q : res L BR ρ H (tru d h) Q W) : wpAny (model X.prog X.w) X.A (truthy u) (TP X pins σ Q) X.xe s := by
  unfold tru at q
  split at q
  · next k e => exact tru_ok pins s σ H x u Q I rx ⟨k, tru_at C.x0.K R r e, q ρ H k (Ext.refl _ _) R rfl⟩
  · exact q.elim
theorem pt_plain (C : CxOk L Γ n ev p X) {e : Expr} {ce : CE} {W : WX} (he : PE X e (tM L p (VR L) (evE ev ce) W)) (hp : ∀ whole, isTrue e X.env whole = (do let v ← whole; standAt e.pos; holding [v] (truthy v))) :
    PT X e (tM L p BR (fun env => M.bind (evE ev ce env) tru) W) :=
  ⟨fun pins s σ H Q I q => isTrue_plain (thn (he.run pins s σ H _ I (tM_bind (P := VR L) q)) fun u s1 ⟨x, H1, I1, r1, ρ1, env, h1, d, R, er, pa, rd, q1⟩ => tru_run C I1 r1 R rd q1) (hp _)⟩
theorem pt_cmpM (C : CxOk L Γ n ev p X) {a b : Expr} {ca cb : CE} {W : WX} {op : CmpOp} {o : COp} {pos : Pos} (h : cCop op = some o) (hs : behindInMarks op b = false) (ha : PE X a (tM L p (VR L) (evE ev ca) W)) (hb : PE X b (tM L p (VR L) (evE ev cb) W)) :
    PT X (.Compare a [op] [b] pos) (tM L p BR (fun env => M.bind (evE ev (.cmp o ca cb) env) tru) W) := by
  refine ⟨fun pins s σ H Q I q => wpAny_isTrue_Compare1 (thn (pe_bin2 C ha hb (cop_ok h) I (tM_bind (P := VR L) (f := fun _ d => tru d) q)) fun v s1 h1 => thn h1 fun u s2 h2 => thn h2 fun c s3 hc => ?_) hs⟩
  obtain ⟨x, H3, I3, r3, ρ1, env, h1', d, R, er, pa, rd, q1⟩ := hc
  exact tru_run C I3 r3 R rd q1
theorem pe_notM (C : CxOk L Γ n ev p X) {a : Expr} {ca : CE} {W : WX} {pos : Pos} (ha : PE X a (tM L p (VR L) (evE ev ca) W)) : PE X (.UnaryOp .Not a pos) (tM L p (VR L) (evE ev (.notE ca)) W) := by
  refine PE.imp (pe_notT ha) fun σ H Q q => ?_
  obtain ⟨pn, ρ, env, h0, R, er, pa, r⟩ := tM_bind (P := VR L) q
  refine ⟨pn, ρ, env, h0, R, er, pa, r.mono fun x H1 => ?_⟩
  rintro ⟨ρ1, env1, h1, d, R1, er1, pa1, rd, r1⟩
  simp only [M.bind, tru] at r1
  split at r1
  · next k h' e =>
    split at e
    · next k' e' =>
      cases e
      exact ⟨_, tru_at C.x0.K R1 rd e', r1.ret R1 (.bl _)⟩
    · cases e
  · next e => split at e <;> cases e
  · exact r1.elim
theorem pt_notM (C : CxOk L Γ n ev p X) {a : Expr} {ca : CE} {W : WX} {pos : Pos} (ha : PT X a (tM L p BR (fun env => M.bind (evE ev ca env) tru) W)) : PT X (.UnaryOp .Not a pos) (tM L p BR (fun env => M.bind (evE ev (.notE ca) env) tru) W) := by
  refine PT.imp (pt_not ha) fun σ H Q q => ?_
  obtain ⟨pn, ρ, env, h0, R, er, pa, r⟩ := q
  refine ⟨pn, ρ, env, h0, R, er, pa, ?_⟩
  simp only [evE, M.bind] at r ⊢
  cases e : evE ev ca env h0 with
  | ok d h1 =>
    rw [e] at r
    simp only [tru] at r ⊢
    cases e2 : truD h1 d with
    | none =>
      rw [e2] at r
      exact r
    | some k =>
      rw [e2] at r
      simp only [M.pure, truD] at r
      intro ρ' H' b x R' pb
      cases pb
      exact r ρ' H' _ x R' rfl
  | exc x h1 =>
    rw [e] at r
    exact r
  | bad =>
    rw [e] at r
    exact r
theorem pe_andM (C : CxOk L Γ n ev p X) {a b : Expr} {es : List Expr} {ca cb : CE} {W : WX} {pos : Pos} (ha : PE X a (tM L p (VR L) (evE ev ca) W)) (hb : PE X (.BoolOp .And (b :: es) pos) (tM L p (VR L) (evE ev cb) W)) :
    PE X (.BoolOp .And (a :: b :: es) pos) (tM L p (VR L) (evE ev (.andE ca cb)) W) := by
  refine PE.imp (pe_andT ha hb) fun σ H Q q => ?_
  obtain ⟨pn, ρ, env, h0, R, er, pa, r⟩ := tM_bind (P := VR L) q
  refine ⟨pn, ρ, env, h0, R, er, pa, r.mono fun x H1 => ?_⟩
  rintro ⟨ρ1, env1, h1, d, R1, er1, pa1, rd, r1⟩
  simp only [M.bind, tru] at r1
  cases e2 : truD h1 d with
  | none =>
    rw [e2] at r1
    exact r1.elim
  | some k =>
    rw [e2] at r1
    refine ⟨k, tru_at C.x0.K R1 rd e2, ?_⟩
    cases k with
    | true => exact iteT ⟨pn, ρ1, env1, h1, R1, er1, pa1, r1⟩
    | false => exact iteF (r1.ret R1 rd)
theorem pe_orM (C : CxOk L Γ n ev p X) {a b : Expr} {es : List Expr} {ca cb : CE} {W : WX} {pos : Pos} (ha : PE X a (tM L p (VR L) (evE ev ca) W)) (hb : PE X (.BoolOp .Or (b :: es) pos) (tM L p (VR L) (evE ev cb) W)) :
    PE X (.BoolOp .Or (a :: b :: es) pos) (tM L p (VR L) (evE ev (.orE ca cb)) W) := by
  refine PE.imp (pe_orT ha hb) fun σ H Q q => ?_
  obtain ⟨pn, ρ, env, h0, R, er, pa, r⟩ := tM_bind (P := VR L) q
  refine ⟨pn, ρ, env, h0, R, er, pa, r.mono fun x H1 => ?_⟩
  rintro ⟨ρ1, env1, h1, d, R1, er1, pa1, rd, r1⟩
  simp only [M.bind, tru] at r1
  cases e2 : truD h1 d with
  | none =>
    rw [e2] at r1
    exact r1.elim
  | some k =>
    rw [e2] at r1
    refine ⟨k, tru_at C.x0.K R1 rd e2, ?_⟩
    cases k with
    | false => exact iteF ⟨pn, ρ1, env1, h1, R1, er1, pa1, r1⟩
    | true => exact iteT (r1.ret R1 rd)
/-- the test of a first part, then the rest -/
theorem pt_andM (C : CxOk L Γ n ev p X) {a b : Expr} {es : List Expr} {ca cb : CE} {W : WX} {pos : Pos} (ha : PT X a (tM L p BR (fun env => M.bind (evE ev ca env) tru) W)) (hb : PT X (.BoolOp .And (b :: es) pos) (tM L p BR (fun env => M.bind (evE ev cb env) tru) W)) :
    PT X (.BoolOp .And (a :: b :: es) pos) (tM L p BR (fun env => M.bind (evE ev (.andE ca cb) env) tru) W) := by
  refine PT.imp (PW.pt (pw_and ha ⟨fun _ => hb.run⟩)) fun σ H Q q => ?_
  obtain ⟨pn, ρ, env, h0, R, er, pa, r⟩ := q
  refine ⟨pn, ρ, env, h0, R, er, pa, ?_⟩
  simp only [evE, M.bind] at r ⊢
  cases e : evE ev ca env h0 with
  | ok d h1 =>
    rw [e] at r
    simp only [tru] at r ⊢
    cases e2 : truD h1 d with
    | none =>
      rw [e2] at r
      exact r
    | some k =>
      rw [e2] at r
      intro ρ' H' b x R' pb
      cases pb
      cases k with
      | true => exact iteT ⟨pn, ρ', env, h1, R', er.mono x, pa.trans x, res.later x r⟩
      | false =>
        simp only [M.pure, e2] at r
        exact iteF (r ρ' H' _ x R' rfl)
  | exc x h1 =>
    rw [e] at r
    exact r
  | bad =>
    rw [e] at r
    exact r
theorem pt_orM (C : CxOk L Γ n ev p X) {a b : Expr} {es : List Expr} {ca cb : CE} {W : WX} {pos : Pos} (ha : PT X a (tM L p BR (fun env => M.bind (evE ev ca env) tru) W)) (hb : PT X (.BoolOp .Or (b :: es) pos) (tM L p BR (fun env => M.bind (evE ev cb env) tru) W)) :
    PT X (.BoolOp .Or (a :: b :: es) pos) (tM L p BR (fun env => M.bind (evE ev (.orE ca cb) env) tru) W) := by
  refine PT.imp (PW.pt (pw_or ha ⟨fun _ => hb.run⟩)) fun σ H Q q => ?_
  obtain ⟨pn, ρ, env, h0, R, er, pa, r⟩ := q
  refine ⟨pn, ρ, env, h0, R, er, pa, ?_⟩
  simp only [evE, M.bind] at r ⊢
  cases e : evE ev ca env h0 with
  | ok d h1 =>
    rw [e] at r
    simp only [tru] at r ⊢
    cases e2 : truD h1 d with
    | none =>
      rw [e2] at r
      exact r
    | some k =>
      rw [e2] at r
      intro ρ' H' b x R' pb
      cases pb
      cases k with
      | false => exact iteF ⟨pn, ρ', env, h1, R', er.mono x, pa.trans x, res.later x r⟩
      | true =>
        simp only [M.pure, e2] at r
        exact iteT (r ρ' H' _ x R' rfl)
  | exc x h1 =>
    rw [e] at r
    exact r
  | bad =>
    rw [e] at r
    exact r
theorem pe_ifM (C : CxOk L Γ n ev p X) {t a b : Expr} {ct ca cb : CE} {W : WX} {pos : Pos} (ht : PT X t (tM L p BR (fun env => M.bind (evE ev ct env) tru) W)) (ha : PE X a (tM L p (VR L) (evE ev ca) W)) (hb : PE X b (tM L p (VR L) (evE ev cb) W)) :
    PE X (.IfExp t a b pos) (tM L p (VR L) (evE ev (.ife ct ca cb)) W) := by
  refine PE.imp (pe_ifExp ht ha hb) fun σ H Q q => ?_
  have q : tM L p (VR L) (fun env => M.bind (M.bind (evE ev ct env) tru) fun k => match k with | true => evE ev ca env | false => evE ev cb env) W σ H Q := by
    obtain ⟨pn, ρ, env, h0, R, er, pa, r⟩ := q
    refine ⟨pn, ρ, env, h0, R, er, pa, ?_⟩
    simp only [evE, M.bind] at r ⊢
    cases e : evE ev ct env h0 with
    | ok d h1 =>
      rw [e] at r
      exact r
    | exc x h1 =>
      rw [e] at r
      exact r
    | bad =>
      rw [e] at r
      exact r
  obtain ⟨pn, ρ, env, h0, R, er, pa, r⟩ := tM_bind (P := BR) q
  refine ⟨pn, ρ, env, h0, R, er, pa, r.mono fun k H1 => ?_⟩
  rintro ⟨ρ1, env1, h1, d, R1, er1, pa1, rd, r1⟩
  cases rd
  cases k with
  | true => exact iteT ⟨pn, ρ1, env1, h1, R1, er1, pa1, r1⟩
  | false => exact iteF ⟨pn, ρ1, env1, h1, R1, er1, pa1, r1⟩
theorem pt_ifM (C : CxOk L Γ n ev p X) {t a b : Expr} {ct ca cb : CE} {W : WX} {pos : Pos} (ht : PT X t (tM L p BR (fun env => M.bind (evE ev ct env) tru) W)) (ha : PT X a (tM L p BR (fun env => M.bind (evE ev ca env) tru) W)) (hb : PT X b (tM L p BR (fun env => M.bind (evE ev cb env) tru) W)) :
    PT X (.IfExp t a b pos) (tM L p BR (fun env => M.bind (evE ev (.ife ct ca cb) env) tru) W) := by
  refine ⟨fun pins s σ H Q I q => ?_⟩
  have q : tM L p BR (fun env => M.bind (M.bind (evE ev ct env) tru) fun k => match k with | true => M.bind (evE ev ca env) tru | false => M.bind (evE ev cb env) tru) W σ H Q := by
    obtain ⟨pn, ρ, env, h0, R, er, pa, r⟩ := q
    refine ⟨pn, ρ, env, h0, R, er, pa, ?_⟩
    simp only [evE, M.bind] at r ⊢
    cases e : evE ev ct env h0 with
    | ok d h1 =>
      rw [e] at r
      simp only [tru] at r ⊢
      cases e2 : truD h1 d with
      | none =>
        rw [e2] at r
        exact r
      | some k =>
        rw [e2] at r
        cases k <;> exact r
    | exc x h1 =>
      rw [e] at r
      exact r
    | bad =>
      rw [e] at r
      exact r
  show wpAny _ _ (do if ← isTrue t X.env (eval t X.env) then isTrue a X.env (eval a X.env) else isTrue b X.env (eval b X.env)) _ _ s
  refine wpAny_bind (thn (ht.run pins s σ H _ I (tM_bind (P := BR) q)) fun k s1 ⟨H1, I1, ρ1, env1, h1, d, R1, er1, pa1, rd, r1⟩ => ?_)
  cases rd
  cases k with
  | true =>
    rw [if_pos rfl]
    exact ha.run pins s1 σ H1 Q I1 ⟨q.1, ρ1, env1, h1, R1, er1, pa1, r1⟩
  | false =>
    rw [if_neg Bool.false_ne_true]
    exact hb.run pins s1 σ H1 Q I1 ⟨q.1, ρ1, env1, h1, R1, er1, pa1, r1⟩
end
end MX
set_option maxHeartbeats 4000000
namespace MX
open PySem PySem.Spec PyProof.Rows L2
section
variable {L : Lk} {Γ : Cn} {n : Nat} {ev : Ev} {p : Pn} {X : Cx}

/-- a two-place operation as a reading -/
def rM (L : Lk) (g : D → D → M D) : R2 := fun x y H Q => ∃ ρ h d e W, Rep L ρ h H ∧ VRel L.K ρ H d x ∧ VRel L.K ρ H e y ∧ res L (VR L) ρ H (g d e h) Q W
theorem OpOk.opR {f : Value → Value → Sem Value} {g : D → D → M D} (ok : OpOk L f g) (h0 : X0 L X) : OpR X f (rM L g) := fun pins s σ H x y v u Q I rx ry ⟨ρ, h, d, e, W, R, rd, re, q⟩ => ok X pins s σ H x y v u Q W ρ h d e h0 I rx ry R rd re q
theorem chain_read (C : CxOk L Γ n ev p X) {ca cb cc : CE} {W : WX} {o o' : COp} {σ : L2.St} {H : Hp} {Q : VK} (q : tM L p (VR L) (evE ev (.chain o o' ca cb cc)) W σ H Q) :
    tChain (rM L (cmpD o)) (rM L (cmpD o')) (tM L p (VR L) (evE ev ca) W) (tM L p (VR L) (evE ev cb) W) (tM L p (VR L) (evE ev cc) W) σ H Q := by
  have pn := q.1
  obtain ⟨_, ρ, env, h0, R, er, pa, r⟩ := q
  simp only [evE] at r
  refine tM_next (P := VR L) (m := evE ev ca) (f := fun env x => M.bind (evE ev cb env) fun y => M.bind (cmpD o x y) fun r => match r with
    | .bl true => M.bind (evE ev cc env) fun z => cmpD o' y z
    | .bl false => M.pure (.bl false)
    | _ => M.bad) pn R er pa r fun ρ1 H1 h1 d1 v1 e1 R1 er1 pa1 rd1 r1 => ?_
  refine tM_next (P := VR L) (m := evE ev cb) (f := fun env y => M.bind (cmpD o d1 y) fun r => match r with
    | .bl true => M.bind (evE ev cc env) fun z => cmpD o' y z
    | .bl false => M.pure (.bl false)
    | _ => M.bad) pn R1 er1 pa1 r1 fun ρ2 H2 h2 d2 v2 e2 R2 er2 pa2 rd2 r2 => ?_
  refine ⟨ρ2, h2, d1, d2, _, R2, rd1.mono e2, rd2, (res.bind (P := VR L) r2).mono fun z H3 => ?_⟩
  rintro ⟨ρ3, h3, d3, e3, R3, rd3, r3⟩
  split at r3
  · cases rd3
    refine ⟨true, rfl, iteT ?_⟩
    refine tM_next (P := VR L) (m := evE ev cc) (f := fun env z => cmpD o' d2 z) pn R3 (er2.mono e3) (pa2.trans e3) r3 fun ρ4 H4 h4 d4 v4 e4 R4 er4 pa4 rd4 r4 => ?_
    exact ⟨ρ4, h4, d2, d4, _, R4, (rd2.mono e3).mono e4, rd4, r4⟩
  · cases rd3
    exact ⟨false, rfl, iteF (r3.ret R3 (.bl false))⟩
  · exact r3.elim
theorem pe_chainM (C : CxOk L Γ n ev p X) {a b c : Expr} {ca cb cc : CE} {W : WX} {op op' : CmpOp} {o o' : COp} {pos : Pos} (h : cCop op = some o) (h' : cCop op' = some o') (hs : behindInMarks op' c = false)
    (ha : PE X a (tM L p (VR L) (evE ev ca) W)) (hb : PE X b (tM L p (VR L) (evE ev cb) W)) (hc : PE X c (tM L p (VR L) (evE ev cc) W)) : PE X (.Compare a [op, op'] [b, c] pos) (tM L p (VR L) (evE ev (.chain o o' ca cb cc)) W) :=
  PE.imp (pe_chain ((cop_ok h).opR C.x0) ((cop_ok h').opR C.x0) ha hb hc (by show behindInMarks op' c = false; exact hs)) fun σ H Q q => chain_read C q
/-- a chain as a test, by its value -/
theorem pt_chainM (C : CxOk L Γ n ev p X) {a b c : Expr} {ca cb cc : CE} {W : WX} {op op' : CmpOp} {o o' : COp} {pos : Pos} (h : cCop op = some o) (h' : cCop op' = some o') (hs : behindInMarks op' c = false)
    (ha : PE X a (tM L p (VR L) (evE ev ca) W)) (hb : PE X b (tM L p (VR L) (evE ev cb) W)) (hc : PE X c (tM L p (VR L) (evE ev cc) W)) : PT X (.Compare a [op, op'] [b, c] pos) (tM L p BR (fun env => M.bind (evE ev (.chain o o' ca cb cc) env) tru) W) := by
  refine PT.imp (pt_chain ((cop_ok h).opR C.x0) ((cop_ok h').opR C.x0) ha hb hc (by show behindInMarks op' c = false; exact hs)) fun σ H Q q => ?_
  refine chain_read C ?_
  obtain ⟨pn, ρ, env, h0, R, er, pa, r⟩ := tM_bind (P := VR L) (f := fun _ d => tru d) q
  refine ⟨pn, ρ, env, h0, R, er, pa, ?_⟩
  simp only [evE] at r ⊢
  -- the answer is a truth
  have key : ∀ d h', (evE ev (.chain o o' ca cb cc) env h0) = .ok d h' → ∃ k, d = .bl k := fun d h' e => by
    simp only [evE, M.bind] at e
    cases e1 : evE ev ca env h0 with
    | exc x h1 =>
      rw [e1] at e
      cases e
    | bad =>
      rw [e1] at e
      cases e
    | ok d1 h1 =>
      rw [e1] at e
      simp only at e
      cases e2 : evE ev cb env h1 with
      | exc x h1 =>
        rw [e2] at e
        cases e
      | bad =>
        rw [e2] at e
        cases e
      | ok d2 h2 =>
        rw [e2] at e
        simp only at e
        cases e3 : cmpD o d1 d2 h2 with
        | exc x h1 =>
          rw [e3] at e
          cases e
        | bad =>
          rw [e3] at e
          cases e
        | ok d3 h3 =>
          rw [e3] at e
          obtain ⟨k, rfl⟩ := cmp_bl e3
          cases k with
          | false =>
            cases e
            exact ⟨_, rfl⟩
          | true =>
            simp only [M.bind] at e
            cases e4 : evE ev cc env h3 with
            | exc x h1 =>
              rw [e4] at e
              cases e
            | bad =>
              rw [e4] at e
              cases e
            | ok d4 h4 =>
              rw [e4] at e
              exact cmp_bl e
  have r' : res L (VR L) ρ H (evE ev (.chain o o' ca cb cc) env h0) (fun b H1 => ∃ ρ1 env h1 a, Rep L ρ1 h1 H1 ∧ ERel L.K ρ1 H1 env σ ∧ Past p ρ1 H1 ∧ VR L ρ1 H1 a b ∧ res L BR ρ1 H1 (tru a h1) Q (fun c d H' => W c d σ H')) (fun c d H' => W c d σ H') := by
    simp only [evE]
    exact r
  have goal : res L (VR L) ρ H (evE ev (.chain o o' ca cb cc) env h0) (fun z H3 => ∃ k, z = V.bl k ∧ Q k H3) (fun c d H' => W c d σ H') := by
    cases e : evE ev (.chain o o' ca cb cc) env h0 with
    | ok d h1 =>
      rw [e] at r'
      obtain ⟨k, rfl⟩ := key d h1 e
      intro ρ' H' b x R' rd
      obtain ⟨ρ1, env1, h2, a2, R2, er2, pa2, rd2, q2⟩ := r' ρ' H' b x R' rd
      cases rd
      cases rd2
      exact ⟨k, rfl, q2 ρ1 H' k (Ext.refl _ _) R2 rfl⟩
    | exc x h1 =>
      rw [e] at r'
      exact r'
    | bad =>
      rw [e] at r'
      exact r'
  simp only [evE] at goal
  exact goal
theorem pe_isNM (C : CxOk L Γ n ev p X) {a : Expr} {ca : CE} {W : WX} {j : Nat} {q1 pos : Pos} (ha : PE X a (tM L p (VR L) (evE ev ca) W)) : PE X (.Compare a [.Is] [.Constant .none j q1] pos) (tM L p (VR L) (evE ev (.isN ca)) W) := by
  refine PE.imp (pe_cmp (pc_isN ha)) fun σ H Q q => ?_
  obtain ⟨pn, ρ, env, h0, R, er, pa, r⟩ := tM_bind (P := VR L) q
  refine ⟨pn, ρ, env, h0, R, er, pa, r.mono fun x H1 => ?_⟩
  rintro ⟨ρ1, env1, h1, d, R1, er1, pa1, rd, r1⟩
  cases rd <;> exact r1.ret R1 (.bl _)
theorem pe_notNM (C : CxOk L Γ n ev p X) {a : Expr} {ca : CE} {W : WX} {j : Nat} {q1 pos : Pos} (ha : PE X a (tM L p (VR L) (evE ev ca) W)) : PE X (.Compare a [.IsNot] [.Constant .none j q1] pos) (tM L p (VR L) (evE ev (.notN ca)) W) := by
  refine PE.imp (pe_cmp (pc_notN ha)) fun σ H Q q => ?_
  obtain ⟨pn, ρ, env, h0, R, er, pa, r⟩ := tM_bind (P := VR L) q
  refine ⟨pn, ρ, env, h0, R, er, pa, r.mono fun x H1 => ?_⟩
  rintro ⟨ρ1, env1, h1, d, R1, er1, pa1, rd, r1⟩
  cases rd <;> exact r1.ret R1 (.bl _)
theorem pt_isNM (C : CxOk L Γ n ev p X) {a : Expr} {ca : CE} {W : WX} {j : Nat} {q1 pos : Pos} (ha : PE X a (tM L p (VR L) (evE ev ca) W)) : PT X (.Compare a [.Is] [.Constant .none j q1] pos) (tM L p BR (fun env => M.bind (evE ev (.isN ca) env) tru) W) := by
  refine PT.imp (pt_cmp (pc_isN ha)) fun σ H Q q => ?_
  have q : tM L p BR (fun env => M.bind (evE ev ca env) fun x => M.pure (match x with | .non => true | _ => false)) W σ H Q := by
    obtain ⟨pn, ρ, env, h0, R, er, pa, r⟩ := q
    refine ⟨pn, ρ, env, h0, R, er, pa, ?_⟩
    simp only [evE, M.bind] at r ⊢
    cases e : evE ev ca env h0 with
    | ok d h1 =>
      rw [e] at r
      cases d <;> exact r
    | exc x h1 =>
      rw [e] at r
      exact r
    | bad =>
      rw [e] at r
      exact r
  obtain ⟨pn, ρ, env, h0, R, er, pa, r⟩ := tM_bind (P := VR L) q
  refine ⟨pn, ρ, env, h0, R, er, pa, r.mono fun x H1 => ?_⟩
  rintro ⟨ρ1, env1, h1, d, R1, er1, pa1, rd, r1⟩
  cases rd <;> exact ⟨_, rfl, r1.ret R1 rfl⟩
theorem pt_notNM (C : CxOk L Γ n ev p X) {a : Expr} {ca : CE} {W : WX} {j : Nat} {q1 pos : Pos} (ha : PE X a (tM L p (VR L) (evE ev ca) W)) : PT X (.Compare a [.IsNot] [.Constant .none j q1] pos) (tM L p BR (fun env => M.bind (evE ev (.notN ca) env) tru) W) := by
  refine PT.imp (pt_cmp (pc_notN ha)) fun σ H Q q => ?_
  have q : tM L p BR (fun env => M.bind (evE ev ca env) fun x => M.pure (match x with | .non => false | _ => true)) W σ H Q := by
    obtain ⟨pn, ρ, env, h0, R, er, pa, r⟩ := q
    refine ⟨pn, ρ, env, h0, R, er, pa, ?_⟩
    simp only [evE, M.bind] at r ⊢
    cases e : evE ev ca env h0 with
    | ok d h1 =>
      rw [e] at r
      cases d <;> exact r
    | exc x h1 =>
      rw [e] at r
      exact r
    | bad =>
      rw [e] at r
      exact r
  obtain ⟨pn, ρ, env, h0, R, er, pa, r⟩ := tM_bind (P := VR L) q
  refine ⟨pn, ρ, env, h0, R, er, pa, r.mono fun x H1 => ?_⟩
  rintro ⟨ρ1, env1, h1, d, R1, er1, pa1, rd, r1⟩
  cases rd <;> exact ⟨_, rfl, r1.ret R1 rfl⟩
end
end MX
set_option maxHeartbeats 4000000
namespace MX
open PySem PySem.Spec PyProof.Rows L2
/-! ### t[::-1] of a tuple -/
section
variable {prog : Program} {w : World} {A : Around} {E : Value → Shared → Prop} {s : Shared}
theorem fm_map {α β : Type} {f : α → Option β} {g : α → β} : ∀ {l : List α}, (∀ m ∈ l, f m = some (g m)) → l.filterMap f = l.map g
  | [], _ => rfl
  | a :: l, h => by
    rw [List.filterMap_cons_some (h a List.mem_cons_self), List.map_cons, fm_map fun m hm => h m (List.mem_cons_of_mem _ hm)]
theorem pick_rev (xs : Array Value) : ((List.range xs.size).filterMap fun (m : Nat) => xs[((xs.size : Int) - 1 + (m : Int) * (-1)).toNat]?) = xs.toList.reverse := by
  apply List.ext_getElem?
  intro i
  have e : ∀ m, m < xs.size → xs[((xs.size : Int) - 1 + (m : Int) * (-1)).toNat]? = some (xs[xs.size - 1 - m]!) := fun m h => by
    have z : ((xs.size : Int) - 1 + (m : Int) * (-1)).toNat = xs.size - 1 - m := by omega
    rw [z, Array.getElem?_eq_getElem (by omega), getElem!_pos xs _ (by omega)]
  have f : ((List.range xs.size).filterMap fun (m : Nat) => xs[((xs.size : Int) - 1 + (m : Int) * (-1)).toNat]?) = (List.range xs.size).map fun m => xs[xs.size - 1 - m]! := by
    exact fm_map fun m hm => e m (List.mem_range.mp hm)
  rw [f, List.getElem?_map]
  by_cases h : i < xs.size
  · rw [List.getElem?_range h, List.getElem?_reverse (by simpa using h)]
    simp only [Option.map_some, Array.length_toList]
    rw [getElem!_pos xs _ (by omega), Array.getElem?_toList, Array.getElem?_eq_getElem (by omega)]
  · rw [List.getElem?_eq_none (by simpa using h), List.getElem?_eq_none (by simpa using h)]
    rfl
theorem sliceApplied_rev {sl : Addr} {vl vu vs : Value} {n : Nat} {Q : Int × Int × Nat → Shared → Prop} (hs : s.heap.IsSliceOf sl vl vu vs) (pl : IsPart vl none) (pu : IsPart vu none) (ps : IsPart vs (some (-1)))
    (h : Q ((n : Int) - 1, -1, n) s) : wpAny (model prog w) A (Builtin.Slice.sliceApplied (.ref sl) (pure (n : Int))) Q E s := by
  obtain ⟨os, hos, hcs, hds⟩ := id hs
  unfold Builtin.Slice.sliceApplied Builtin.Slice.sliceFields
  refine wpAny_bind (wpAny_bind (wpAny_field hos hds (x := vl) rfl (wpAny_bind (wpAny_field hos hds (x := vu) rfl (wpAny_bind (wpAny_field hos hds (x := vs) rfl (wpAny_pure ?_)))))))
  refine wpAny_bind (HT.slicePart_ ps ?_)
  show wpAny _ _ (if ((-1 : Int) == 0) = true then _ else _) _ _ s
  rw [if_neg (by decide)]
  refine wpAny_bind (HT.slicePart_ pl (wpAny_bind (HT.slicePart_ pu (wpAny_bind (wpAny_pure ?_)))))
  have e : Builtin.Slice.sliceAdjust none none (-1) (n : Int) = ((n : Int) - 1, -1) := rfl
  have e2 : Builtin.Slice.slicePlaces ((n : Int) - 1) (-1) (-1) = n := by
    unfold Builtin.Slice.slicePlaces
    have h1 : ¬ ((-1 : Int) > 0) := by omega
    simp only [h1, if_false, Int.neg_neg, Int.ediv_one]
    split <;> omega
  show wpAny _ _ (match Builtin.Slice.sliceAdjust none none (-1) (n : Int) with | (lo, hi) => pure (lo, (-1 : Int), Builtin.Slice.slicePlaces lo hi (-1))) _ _ s
  rw [e]
  show wpAny _ _ (pure ((n : Int) - 1, (-1 : Int), Builtin.Slice.slicePlaces ((n : Int) - 1) (-1) (-1))) _ _ s
  rw [e2]
  exact wpAny_pure h
theorem getItem_tuple_rev {t sl : Addr} {items : Array Value} {vl vu vs : Value} {Q : Value → Shared → Prop} (ht : IsTup s.heap t items) (hs : s.heap.IsSliceOf sl vl vu vs) (pl : IsPart vl none) (pu : IsPart vu none) (ps : IsPart vs (some (-1)))
    (h : Q (.ref s.heap.objs.size) { s with heap := s.heap.push { cls := .type "tuple", data := .seq (items.toList.reverse).toArray } })
    (hsz : items.size ≤ sizeLine) : wpAny (model prog w) A (getItem (.ref t) (.ref sl)) Q E s := by
  have htake : sizeOk (.seq (items.toList.reverse).toArray) := by
    show (items.toList.reverse).toArray.size ≤ sizeLine
    rw [List.size_toArray, List.length_reverse, Array.length_toList]
    exact hsz
  obtain ⟨os, hos, hcs, hds⟩ := id hs
  have hTs : s.TypeIs (.ref sl) "slice" := ⟨os, hos, hcs⟩
  unfold getItem
  try with_reducible refine wpAny_holding ?_
  first | refine wpAny_bind (wpAny_pure ?_) | skip
  refine wpAny_bind (wpAny_sequenceKey ht.typeIs (by decide) ?_)
  refine wpAny_bind (wpAny_callSpecial?_slot (name := Str.ofString "__getitem__") ht.typeIs PyProof.Rows.slot_tuple_getitem
    (wpAny_call_entry PyProof.Rows.slot_tuple_getitem ht.typeIs entry_tuple_getitem ?_ (args_tuple_getitem _ _)))
  show wpAny _ _ (Builtin.Tuple.tupleItemsOf (.ref t) >>= _) _ _ s
  refine wpAny_bind (tupleItemsOf_ ht ?_)
  refine wpAny_bind (wpAny_typeOf hTs ?_)
  rw [if_pos (by decide)]
  refine wpAny_bind (sliceApplied_rev hs pl pu ps ?_)
  have hno : ¬ (((items.size : Int) - 1 == 0 && (-1 : Int) == 1 && items.size == items.size) = true) := by
    intro q
    rw [Bool.and_eq_true, Bool.and_eq_true] at q
    exact absurd q.1.2 (by decide)
  show wpAny _ _ (if ((items.size : Int) - 1 == 0 && (-1 : Int) == 1 && items.size == items.size) = true then _ else _) _ _ s
  rw [if_neg hno, pick_rev]
  first
    | exact wpAny_bind (m := Builtin.Tuple.tupleExact _) (wpAny_newObj_type (wpAny_pure ⟨_, rfl, wpAny_pure h⟩) htake)
    | exact wpAny_bind (m := Builtin.Tuple.tupleExact _) (wpAny_newObj_type (wpAny_bind (wpAny_pure (wpAny_pure ⟨_, rfl, wpAny_pure h⟩))) htake)
    | exact wpAny_bind (wpAny_bind (m := Builtin.Tuple.tupleExact _) (wpAny_newObj_type (wpAny_pure (wpAny_pure ⟨_, rfl, wpAny_pure h⟩)) htake))
    | exact wpAny_bind (wpAny_bind (m := Builtin.Tuple.tupleExact _) (wpAny_newObj_type (wpAny_pure ⟨_, rfl, wpAny_pure h⟩) htake))
end
/-- xs[::-1] of a tuple -/
def tRevT (K : PySem.W.Frag) (te : TE) : TE := fun σ H Q => te σ H fun x H1 => ∃ a xs, x = .ref a ∧ SqT K H1 a xs ∧ ∀ p, H1 p = none → Q (.ref p) (upd H1 p (.tup xs.reverse))
theorem pe_revT {X : Cx} {e : Expr} {te : TE} {k : Nat} {p1 p2 p3 pos : Pos} (he : PE X e te) : PE X (.Subscript e (.Slice none none (some (.UnaryOp .USub (.Constant (.int 1) k p1) p2)) p3) pos) (tRevT X.K te) := by
  refine ⟨fun pins s σ H Q I h => ?_⟩
  refine Subscript_ (thn (he.run pins s σ H _ I h) fun v s1 ⟨x, H1, I1, r1, q1⟩ => ?_)
  obtain ⟨a, xs, ex, hx, q⟩ := q1
  subst ex
  cases r1
  have hst : PO X (some (.UnaryOp .USub (.Constant (.int 1) k p1) p2)) (tPart (tUn (rU fun i => .int (-i)) (tC (.int 1)))) := po_some (pe_un un_neg pe_int)
  refine wpAny_Slice (thn (po_none.run pins s1 σ H1 (fun o H2 => o = none ∧ H2 = H1) I1 ⟨rfl, rfl⟩) fun vl s2 ⟨l, H2, I2, pl, el, e2⟩ => ?_)
  subst el e2
  refine thn (po_none.run pins s2 σ H2 (fun o H3 => o = none ∧ H3 = H2) I2 ⟨rfl, rfl⟩) fun vu s3 ⟨u, H3, I3, pu, eu, e3⟩ => ?_
  subst eu e3
  refine thn (hst.run pins s3 σ H3 (fun o H4 => o = some (-1) ∧ H4 = H3) I3 ⟨1, rfl, -1, rfl, rfl, rfl⟩) fun vs s4 ⟨o, H4, I4, ps, eo, e4⟩ => ?_
  subst eo e4
  have I5 : Inv X pins σ H4 { s4 with heap := s4.heap.push { cls := .type "slice", data := .fields #[vl, vu, vs] } } := I4.kept (t' := s4.toks) fun b ob q => Heap.get?_push_of_some _ q
  obtain ⟨its, r, ht, hz⟩ := I5.tuple hx
  have hlen := r.length
  show wpAny (model X.prog X.w) X.A (subscriptTail e (.Slice none none (some (.UnaryOp .USub (.Constant (.int 1) k p1) p2)) p3) (.ref a) (.ref s4.heap.objs.size)) (EP X pins σ Q) X.xe { s4 with heap := s4.heap.push { cls := .type "slice", data := .fields #[vl, vu, vs] } }
  refine tail_any (ops := [.ref a, .ref s4.heap.objs.size]) ht.typeIs (PyProof.Rows.slot_tuple_getitem.lookup) ?_ (by with_unfolding_all rfl)
  refine getItem_tuple_rev ht (Heap.IsSliceOf.new _ vl vu vs) pl pu ps ?_ (by rw [List.size_toArray]; omega)
  have e6 : its.toArray.toList.reverse = its.reverse := by simp
  rw [e6]
  refine ⟨.ref _, _, I5.laid (t' := s4.toks) (o := .tup xs.reverse) (fun b ob q => Heap.get?_push_of_some _ q) (Nat.le_refl _) ?_, rfl, q _ (I5.hok.fresh (Nat.le_refl _))⟩
  exact ⟨by rw [List.length_reverse]; exact hz, _, r.reverse, ⟨_, Heap.get?_push_size _ rfl, rfl, _, rfl⟩⟩
end MX
set_option maxHeartbeats 4000000
namespace MX
open PySem PySem.Spec PyProof.Rows L2
section
variable {L : Lk} {Γ : Cn} {n : Nat} {ev : Ev} {p : Pn} {X : Cx}

/-! ### what is compiled carries no star -/
theorem star_of {k : Nat} {Γ : Cn} {e : Expr} {ce : CE} (h : cE k Γ e = some ce) (es : List Expr) (env : PySem.Env) : starEach (e :: es) env = (false, eval e env) :: starEach es env := by
  cases k with
  | zero => cases h
  | succ k => cases e <;> first | rfl | (simp only [cE] at h; cases h)
theorem cL_cons {f : Expr → Option CE} {e : Expr} {es : List Expr} {r : CEs} (h : cL f (e :: es) = some r) : ∃ a b, f e = some a ∧ cL f es = some b ∧ r = .cons a b := by
  unfold cL at h
  cases e1 : f e with
  | none =>
    rw [e1] at h
    cases h
  | some a =>
    cases e2 : cL f es with
    | none =>
      rw [e1, e2] at h
      cases h
    | some b =>
      rw [e1, e2] at h
      cases h
      exact ⟨a, b, rfl, rfl, rfl⟩
theorem plain_of {k : Nat} {Γ : Cn} (pos : Pos) (env : PySem.Env) : ∀ {es : List Expr} {r : CEs}, cL (cE k Γ) es = some r → (backTo pos (starEach es env)).any (·.1) = false
  | [], _, _ => rfl
  | e :: es, r, h => by
    obtain ⟨a, b, h1, h2, _⟩ := cL_cons h
    rw [star_of h1]
    show (false || (backTo pos (starEach es env)).any (·.1)) = false
    rw [plain_of pos env h2]
    rfl
theorem plain_all {k : Nat} {Γ : Cn} (pos : Pos) (env : PySem.Env) : ∀ {es : List Expr} {r : CEs}, cL (cE k Γ) es = some r → (backTo pos (starEach es env)).all (fun x => !x.1) = true
  | [], _, _ => rfl
  | e :: es, r, h => by
    obtain ⟨a, b, h1, h2, _⟩ := cL_cons h
    rw [star_of h1]
    show (true && (backTo pos (starEach es env)).all (fun x => !x.1)) = true
    rw [plain_all pos env h2]
    rfl
/-- argument lists -/
theorem pa_list {k : Nat} {W : WX} (ih : ∀ e ce, cE k Γ e = some ce → PE X e (tM L p (VR L) (evE ev ce) W)) : ∀ {es : List Expr} {r : CEs}, cL (cE k Γ) es = some r → PA X es (tM L p (VRs L) (evEs ev r) W)
  | [], r, h => by
    cases h
    exact PA.imp pa_nil fun σ H Q ⟨_, ρ, env, hh, R, er, _, r⟩ => r.ret R .nil
  | e :: es, r, h => by
    obtain ⟨a, b, h1, h2, rfl⟩ := cL_cons h
    refine PA.imp (pa_cons (ih e a h1) (pa_list ih h2) (star_of h1 es _)) fun σ H Q q => ?_
    have pn := q.1
    obtain ⟨_, ρ, env, h0, R, er, pa, r⟩ := q
    simp only [evEs] at r
    refine tM_next (P := VR L) (m := evE ev a) (f := fun env x => M.bind (evEs ev b env) fun xs => M.pure (x :: xs)) pn R er pa r fun ρ1 H1 h1 d v e1 R1 er1 pa1 rd r1 => ?_
    refine tM_next (P := VRs L) (m := evEs ev b) (f := fun _ xs => M.pure (d :: xs)) pn R1 er1 pa1 r1 fun ρ2 H2 h2 ds vs e2 R2 er2 pa2 rds r2 => ?_
    exact r2.ret R2 (.cons (rd.mono e2) rds)
theorem pe_tupM {es : List Expr} {ces : CEs} {W : WX} {j : Nat} {pos : Pos} (ha : PA X es (tM L p (VRs L) (evEs ev ces) W)) : PE X (.Tuple es j pos) (tM L p (VR L) (evE ev (.tup ces)) W) := by
  refine PE.imp (pe_tup ha) fun σ H Q q => ?_
  obtain ⟨pn, ρ, env, h0, R, er, pa, r⟩ := tM_bind (P := VRs L) q
  refine ⟨pn, ρ, env, h0, R, er, pa, r.mono fun x H1 => ?_⟩
  rintro ⟨ρ1, env1, h1, ds, R1, er1, pa1, rd, r1⟩
  split at r1
  · next hz => exact ⟨by rw [← rd.length]; exact hz, fun pp hn => res_tup R1 rd r1 hn⟩
  · exact r1.elim
theorem pe_lstM {es : List Expr} {ces : CEs} {W : WX} {pos : Pos} (ha : PA X es (tM L p (VRs L) (evEs ev ces) W)) : PE X (.List es pos) (tM L p (VR L) (evE ev (.lst ces)) W) := by
  refine PE.imp (pe_lst ha) fun σ H Q q => ?_
  obtain ⟨pn, ρ, env, h0, R, er, pa, r⟩ := tM_bind (P := VRs L) q
  refine ⟨pn, ρ, env, h0, R, er, pa, r.mono fun x H1 => ?_⟩
  rintro ⟨ρ1, env1, h1, ds, R1, er1, pa1, rd, r1⟩
  split at r1
  · next hz => exact ⟨by rw [← rd.length]; exact hz, fun pp hn => res_alloc R1 rd r1 hn⟩
  · exact r1.elim
/-- a new thing, locked for good -/
theorem pe_frz {e : Expr} {t : TE} (h : PE X e t) : PE X e (fun σ H Q => t σ H fun v H' => ∃ d u, v = .ref d ∧ H' d = some u ∧ Mut (some u) ∧ ∀ od, Q v (upd H' d (.frz od u))) :=
  ⟨fun pins s σ H Q I q => thn (h.run pins s σ H _ I q) fun u s1 ⟨x, H1, I1, r, d, w, ex, hd, mu, k⟩ => by
    obtain ⟨od, I2⟩ := I1.lock hd mu
    exact ⟨x, _, I2, r, k od⟩⟩
theorem upd_upd {H : Hp} {a : Addr} {u v : HO} : upd (upd H a u) a v = upd H a v := by
  funext b
  by_cases h : b = a
  · rw [h, upd_same, upd_same]
  · rw [upd_ne h, upd_ne h, upd_ne h]
theorem pe_edct {W : WX} {pos : Pos} : PE X (.Dict [] [] pos) (tM L p (VR L) (evE ev .edct) W) :=
  PE.imp (pe_frz pe_dnewK) fun σ H Q ⟨_, ρ, env, h0, R, er, _, r⟩ pp hn => ⟨pp, _, rfl, upd_same, trivial, fun od => by
    rw [upd_upd]
    exact r (ρ ++ [pp]) _ (.ref pp) (ext_alloc hn) (R.alloc hn (.dct .nil)) (.ref (by rw [← R.len]; simp))⟩
/-- {k: v}, of constants -/
theorem con_te {X : Cx} {K : PySem.W.Frag} {c : Const} {d : D} (h : dOf (cConst c) = some d) : ∃ v : V, (∀ ρ H, VRel K ρ H d v) ∧ ∀ j pos, PE X (.Constant c j pos) (tC v) := by
  cases c with
  | none =>
    cases h
    exact ⟨.non, fun _ _ => .non, fun _ _ => pe_non⟩
  | bool b =>
    cases h
    exact ⟨.bl b, fun _ _ => .bl b, fun _ _ => pe_bl⟩
  | int i =>
    cases h
    exact ⟨.int i, fun _ _ => .int i, fun _ _ => pe_int⟩
  | str x =>
    cases h
    exact ⟨.str x, fun _ _ => .str x, fun _ _ => pe_str⟩
  | _ => cases h
theorem pe_dispM {ck cv : Const} {j1 j2 : Nat} {q1 q2 pos : Pos} {k v : D} {W : WX} (hk : dOf (cConst ck) = some k) (hv : dOf (cConst cv) = some v) :
    PE X (.Dict [some (.Constant ck j1 q1)] [.Constant cv j2 q2] pos) (tM L p (VR L) (evE ev (.disp k v)) W) := by
  obtain ⟨kv, rk, pk⟩ := con_te (X := X) (K := L.K) hk
  obtain ⟨vv, rv, pv⟩ := con_te (X := X) (K := L.K) hv
  refine PE.imp (pe_frz (pe_disp (pps_cons (pk j1 q1) (pv j2 q2) pps_nil) rfl rfl (by simp) (by simp))) fun σ H Q ⟨_, ρ, env, h0, R, er, _, r⟩ pp hn => ?_
  have go : ∀ key : Key, kv = kV key → keyD key = k → res L (VR L) ρ H (alloc (.dct [(k, v)]) h0) Q (fun c d H' => W c d σ H') →
      tPairs [(tC kv, tC vv)] σ (upd H pp (.dK [])) fun ps H2 => H2 pp = some (.dK []) ∧ ∃ kvs : List (Key × V), ps = kvs.map (fun kv => (kV kv.1, kv.2)) ∧ kvs.length ≤ 15 ∧ ∃ d u, V.ref pp = .ref d ∧ (upd H2 pp (.dK (mergeK [] kvs))) d = some u ∧ Mut (some u) ∧ ∀ od, Q (.ref pp) (upd (upd H2 pp (.dK (mergeK [] kvs))) d (.frz od u)) := by
    intro key ek ed r
    subst ek ed
    show (upd H pp (.dK [])) pp = some (.dK []) ∧ _
    refine ⟨by rw [upd_same], [(key, vv)], rfl, by simp, ?_⟩
    have e1 : upd (upd H pp (.dK [])) pp (.dK (mergeK [] [(key, vv)])) = upd H pp (.dK [(key, vv)]) := by
      rw [upd_upd]
      rfl
    rw [e1]
    refine ⟨pp, _, rfl, upd_same, trivial, fun od => ?_⟩
    rw [upd_upd]
    exact r (ρ ++ [pp]) _ (.ref pp) (ext_alloc hn) (R.alloc hn (.dct (.cons (rv _ _) .nil))) (.ref (by rw [← R.len]; simp))
  simp only [evE] at r
  have rk' := rk ρ H
  cases rk' with
  | int i => exact go (.inl i) rfl rfl r
  | str x => exact go (.inr x) rfl rfl r
  | _ => exact r.elim
theorem pe_negM {a : Expr} {ca : CE} {W : WX} {pos : Pos} (ha : PE X a (tM L p (VR L) (evE ev ca) W)) : PE X (.UnaryOp .USub a pos) (tM L p (VR L) (evE ev (.neg ca)) W) := by
  refine PE.imp (pe_un un_neg ha) fun σ H Q q => ?_
  obtain ⟨pn, ρ, env, h0, R, er, pa, r⟩ := tM_bind (P := VR L) q
  refine ⟨pn, ρ, env, h0, R, er, pa, r.mono fun x H1 => ?_⟩
  rintro ⟨ρ1, env1, h1, d, R1, er1, pa1, rd, r1⟩
  cases rd with
  | int i => exact ⟨i, rfl, r1.ret R1 (.int _)⟩
  | _ => exact r1.elim
theorem pe_revM (C : CxOk L Γ n ev p X) {a : Expr} {ca : CE} {W : WX} {k : Nat} {p1 p2 p3 pos : Pos} (ha : PE X a (tM L p (VR L) (evE ev ca) W)) :
    PE X (.Subscript a (.Slice none none (some (.UnaryOp .USub (.Constant (.int 1) k p1) p2)) p3) pos) (tM L p (VR L) (evE ev (.rev ca)) W) := by
  refine PE.imp (pe_revT ha) fun σ H Q q => ?_
  obtain ⟨pn, ρ, env, h0, R, er, pa, r⟩ := tM_bind (P := VR L) q
  refine ⟨pn, ρ, env, h0, R, er, pa, r.mono fun x H1 => ?_⟩
  rintro ⟨ρ1, env1, h1, d, R1, er1, pa1, rd, r1⟩
  cases rd with
  | tup ht hv => exact ⟨_, _, rfl, by rw [C.x0.K]; exact ht.sq, fun pp hn => res_tup R1 hv.rev r1 hn⟩
  | _ => exact r1.elim
theorem plainIx {b : Expr} (h : noSlice b = true) : PlainIx b := by
  intro o i
  cases b <;> first | rfl | cases h
theorem pe_idxM (C : CxOk L Γ n ev p X) {a b : Expr} {ca cb : CE} {W : WX} {pos : Pos} (hs : noSlice b = true) (ha : PE X a (tM L p (VR L) (evE ev ca) W)) (hb : PE X b (tM L p (VR L) (evE ev cb) W)) :
    PE X (.Subscript a b pos) (tM L p (VR L) (evE ev (.idx ca cb)) W) := by
  refine ⟨fun pins s σ H Q I q => ?_⟩
  have pn := q.1
  refine Subscript_ (bin ha hb I (R := fun x y H2 => ∃ ρ h d e, Rep L ρ h H2 ∧ VRel L.K ρ H2 d x ∧ VRel L.K ρ H2 e y ∧ res L (VR L) ρ H2 (idxD d e h) Q (fun c d H' => W c d σ H')) ?_ fun v u s2 x y H2 I2 rx ry ⟨ρ, h2, d, e, R, r1, r2, q⟩ => ?_)
  · obtain ⟨_, ρ, env, h0, R, er, pa, r⟩ := q
    simp only [evE] at r
    refine tM_next (P := VR L) (m := evE ev ca) (f := fun env x => M.bind (evE ev cb env) fun y => idxD x y) pn R er pa r fun ρ1 H1 h1 d1 v1 e1 R1 er1 pa1 rd1 r1 => ?_
    exact tM_next (P := VR L) (m := evE ev cb) (f := fun _ y => idxD d1 y) pn R1 er1 pa1 r1 fun ρ2 H2 h2 e y e2 R2 _ _ re r2 => ⟨ρ2, h2, d1, e, R2, rd1.mono e2, re, r2⟩
  · exact item_ok X a b pins s2 σ H2 x y v u Q _ ρ h2 d e C.x0 I2 rx ry R r1 r2 (plainIx hs v u) q
/-! ### calls -/
theorem pe_callM (C : CxOk L Γ n ev p X) {x : Str} {i k : Nat} {es : List Expr} {ces : CEs} {W : WX} {p1 pos : Pos} (tk : Takes X W) (hg : globB Γ.sc x = true) (hp : posOf Γ.g.fns x = some i) (hh : Γ.hot = false) (hc : cL (cE k Γ) es = some ces)
    (ha : PA X es (tM L p (VRs L) (evEs ev ces) W)) : PE X (.Call (.Name x p1) es [] pos) (tM L p (VR L) (evE ev (.call i ces)) W) := by
  refine ⟨fun pins s σ H Q I q => ?_⟩
  obtain ⟨g1, g2, _, _⟩ := gl_of C hg
  have q := tM_bind (P := VRs L) (f := fun _ xs => match ev.l with | c :: _ => c.call i xs | [] => M.bad) q
  obtain ⟨a, hm, hk, ha0, hd0⟩ := C.gb.fnv x i hp
  refine wpAny_Call_Name_kw (ld_glob I g1 (by rw [C.x0.mg]; exact hm) ?_ g2)
  have fin : ∀ (s1 : Shared) (H1 : Hp) (vs : List V) (us : List Value), Inv X pins σ H1 s1 → Vals vs us → (∃ ρ1 env h1 ds, Rep L ρ1 h1 H1 ∧ ERel L.K ρ1 H1 env σ ∧ Past p ρ1 H1 ∧ VRs L ρ1 H1 ds vs ∧
        res L (VR L) ρ1 H1 ((match ev.l with | c :: _ => c.call i ds | [] => M.bad) h1) Q (fun c d H' => W c d σ H')) → wpAny (model X.prog X.w) X.A (call (.ref a) us) (EP X pins σ Q) X.xe s1 := by
    intro s1 H1 vs us I1 rv ⟨ρ1, env, h1', ds, R1, er1, pa1, rds, r1⟩
    rw [C.lev] at r1
    cases n with
    | zero => exact r1.elim
    | succ m =>
      obtain ⟨a', fd, ps, f1, f2, f3, F, hnp⟩ := (C.fns 0 m (by omega) i x (fns_at hp)).ex
      rw [ha0] at f1
      subst f1
      rw [hd0] at f3
      have f3 := f3.all0
      have r1 : res L (VR L) ρ1 H1 ((mkCl L.pg (tabs L.pg m)).call i ds h1') Q (fun c d H' => W c d σ H') := r1
      have hlen : vs.length = ps.length := by
        have r2 := r1
        simp only [mkCl] at r2
        split at r2
        · next fd' e =>
          split at r2
          · next e2 => rw [← rds.length, e2.2, hnp fd' e]
          · exact r2.elim
        · exact r2.elim
      refine run_fnM (X := X) (E := WE W σ) (by rw [C.x0.K, C.x0.mg]; exact F) (C.room hh) C.x0.gd (by rw [C.x0.K]; exact f3) (passAt tk σ) I1 rv ?_
      exact ⟨hlen, ρ1, h1', ds, R1, rds, r1⟩
  cases es with
  | nil =>
    refine PySem.W.callWith_K0 I.kIn (by rw [C.x0.K]; exact hk) ?_
    cases hc
    obtain ⟨pn, ρ, env, h0, R, er, pa, r⟩ := q
    exact fin s H [] [] I .nil (r.ret R .nil)
  | cons e es =>
    obtain ⟨ca, cb, c1, c2, rfl⟩ := cL_cons hc
    exact PySem.W.callWith_K (h₀ := X.base) I.ok.mod.kin (by rw [C.x0.K]; exact hk) (thn (ha.run pos pins s σ H _ I q) fun us s1 ⟨vs, H1, I1, rv, q1⟩ => ⟨I1.kIn, fin s1 H1 vs us I1 rv q1⟩) (star_of c1 es _) (plain_of pos _ c2)
/-- the built-in functions and types -/
def btV : Bt → Value
  | .len => .builtin "len"
  | .abs => .builtin "abs"
  | .max => .builtin "max"
  | .min => .builtin "min"
  | .int => .type "int"
  | .list => .type "list"
  | .tuple => .type "tuple"
  | .repr => .builtin "repr"
  | .all => .builtin "all"
  | .sum => .builtin "sum"
  | .sorted => .builtin "sorted"
theorem bt_ok (b : Bt) (h : X.calm = true ∨ b = .repr) (C : X0 L X) {pins : List (Addr × Obj)} {s : Shared} {σ : L2.St} {H : Hp} {xs : List V} {us : List Value} {Q : VK} {W : Value → Option Addr → Hp → Prop} {ρ : List Addr} {hh : Hh} {ds : List D} (I : Inv X pins σ H s)
    (r : Vals xs us) (R : Rep L ρ hh H) (rs : VRels L.K ρ H ds xs) (q : res L (VR L) ρ H (btD b ds hh) Q W) : wpAny (model X.prog X.w) X.A (call (btV b) us) (EP X pins σ Q) X.xe s := by
  have go : ∀ {f g}, X.calm = true → CallOk L f g → res L (VR L) ρ H (g ds hh) Q W → wpAny (model X.prog X.w) X.A (call f us) (EP X pins σ Q) X.xe s := fun {f g} c k q => k X pins s σ H xs us Q W ρ hh ds C c I r R rs q
  by_cases e : b = .repr
  · subst e
    exact repr_ok X pins s σ H xs us Q W ρ hh ds C I r R rs q
  · have hc : X.calm = true := by
      rcases h with h | h
      · exact h
      · exact absurd h e
    cases b with
    | len => exact go hc len_ok q
    | abs => exact go hc abs_ok q
    | max => exact go hc max_ok q
    | min => exact go hc min_ok q
    | int => exact go hc int_ok q
    | list => exact go hc list_ok q
    | tuple => exact go hc tuple_ok q
    | repr => exact absurd rfl e
    | all => exact go hc all_ok q
    | sum => exact go hc sum_ok q
    | sorted => exact go hc sorted_ok q
theorem bt_boot {x : Str} {b : Bt} (h : cBt x = some b) : bootBuiltins x = some (btV b) := by
  unfold cBt at h
  repeat' split at h
  all_goals first | (cases h; done) | skip
  all_goals (cases h; subst_vars; first
    | exact PySem.boot_len | exact PyProof.Rows.boot_sorted | exact PyProof.Rows.boot_abs | exact PyProof.Rows.boot_max | exact PyProof.Rows.boot_min | exact PyProof.Rows.boot_int | exact PyProof.Rows.boot_list | exact PyProof.Rows.boot_tuple | exact PyProof.Rows.boot_repr | exact PyProof.Rows.boot_sum | exact PyProof.Rows.boot_all)
theorem pe_btM (C : CxOk L Γ n ev p X) {x : Str} {b : Bt} {k : Nat} {e : Expr} {es : List Expr} {ces : CEs} {W : WX} {p1 pos : Pos} (hg : globB Γ.sc x = true) (hb : x ∈ Γ.g.bl) (hx : cBt x = some b) (hh : X.calm = true ∨ b = .repr) (hc : cL (cE k Γ) (e :: es) = some ces)
    (ha : PA X (e :: es) (tM L p (VRs L) (evEs ev ces) W)) : PE X (.Call (.Name x p1) (e :: es) [] pos) (tM L p (VR L) (evE ev (.bt b ces)) W) := by
  refine ⟨fun pins s σ H Q I q => ?_⟩
  obtain ⟨g1, g2, _, g3⟩ := gl_of C hg
  have q := tM_bind (P := VRs L) (f := fun _ xs => btD b xs) q
  obtain ⟨ca, cb, c1, c2, rfl⟩ := cL_cons hc
  refine wpAny_Call_Name_kw (ld_blt I g1 (by rw [C.x0.mg]; exact C.gb.bl x hb) (bt_boot hx) ?_ g3 g2)
  have arg : wpAny (model X.prog X.w) X.A (spliced (backTo pos (starEach (e :: es) X.env))) (fun us s1 => wpAny (model X.prog X.w) X.A (call (btV b) us) (EP X pins σ Q) X.xe s1) X.xe s :=
    thn (ha.run pos pins s σ H _ I q) fun us s1 ⟨vs, H1, I1, rv, ρ1, env, h1, ds, R1, er1, pa1, rds, r1⟩ => bt_ok b hh C.x0 I1 rv R1 rds r1
  cases b with
  | int => exact PyProof.Rows.callWith_type1 arg (star_of c1 es _) (plain_of pos _ c2)
  | list => exact PyProof.Rows.callWith_type1 arg (star_of c1 es _) (plain_of pos _ c2)
  | tuple => exact PyProof.Rows.callWith_type1 arg (star_of c1 es _) (plain_of pos _ c2)
  | _ => exact PyProof.Rows.callWith_builtin1 arg (star_of c1 es _) (plain_of pos _ c2)
/-! ### methods -/
def bmT : Bm → String
  | .append => "list"
  | .insert => "list"
  | .join => "str"
  | .index => "list"
  | .pop => "list"
  | .extend => "list"
def bmI : Bm → String
  | .append => "list.append"
  | .insert => "list.insert"
  | .join => "str.join"
  | .index => "list.index"
  | .pop => "list.pop"
  | .extend => "list.extend"
theorem bm_ty {b : Bm} {d : D} {h : Hh} {ρ : List Addr} {H : Hp} {x : V} {Q : Unit → Hp → Prop} {W : Value → Option Addr → Hp → Prop} (R : Rep L ρ h H) (r : VRel L.K ρ H d x) (q : res L UR ρ H (bmK b d h) Q W) :
    tyV L.K (bmT b) x H ∧ bmK b d h = .ok () h := by
  have lst : ∀ {r : Nat} {a : Addr}, ρ[r]? = some a → (∃ xs, h[r]? = some (.lst xs)) → tyV L.K "list" (.ref a) H := fun {r a} hr ⟨xs, e⟩ => by
    obtain ⟨vs, e1, r1⟩ := lst_at R hr e
    exact .inl ⟨rfl, vs, .inl (.inl e1)⟩
  cases b <;> cases r <;> first
    | exact q.elim
    | exact ⟨rfl, rfl⟩
    | (simp only [bmK] at q ⊢
       split at q
       · next xs e => exact ⟨lst (by assumption) ⟨_, e⟩, rfl⟩
       · exact q.elim)
theorem bm_ok (b : Bm) : MethOk L (bmI b) (bmD b) := by
  cases b with
  | append => exact append_ok
  | insert => exact insert_ok
  | join => exact join_ok
  | index => exact index_ok
  | pop => exact pop_ok
  | extend => exact extend_ok
theorem base_of {o : Expr} {m : Str} {env : PySem.Env} {w : Sem Value} (h : plainO o = true) : attributeBase o m env w = w := by
  unfold attributeBase
  split
  · cases h
  · rfl
theorem bm_slot (b : Bm) {m : Str} (h : cBm m = some b) : PlainAttrs (bmT b) ∧ Slot (bmT b) m (bmI b) ∧ typeOf (.builtin (bmI b)) = pure (.type "method_descriptor") := by
  unfold cBm at h
  repeat' split at h
  all_goals first | (cases h; done) | skip
  all_goals (cases h; subst_vars; first
    | exact ⟨PySem.F.plainAttrs_list, PySem.F.slot_list_append, PySem.F.type_list_append⟩
    | exact ⟨PySem.F.plainAttrs_list, PySem.F.slot_list_insert, PySem.F.type_list_insert⟩
    | exact ⟨PySem.F.plainAttrs_str, PySem.F.slot_str_join, PySem.F.type_str_join⟩
    | exact ⟨PySem.F.plainAttrs_list, PySem.F.slot_list_index, PySem.F.type_list_index⟩
    | exact ⟨PySem.F.plainAttrs_list, PySem.F.slot_list_pop, PySem.F.type_list_pop⟩
    | exact ⟨PySem.F.plainAttrs_list, PySem.F.slot_list_extend, PySem.F.type_list_extend⟩)
theorem pe_bmM (C : CxOk L Γ n ev p X) {o : Expr} {co : CE} {b : Bm} {m : Str} {k : Nat} {e : Expr} {es : List Expr} {ces : CEs} {W : WX} {p1 pos : Pos} (hm : cBm m = some b) (hh : X.calm = true) (hpl : plainO o = true) (hline : (p1.endLine == pos.line) = true) (hl : (e :: es).length < 30)
    (hc : cL (cE k Γ) (e :: es) = some ces) (ho : PE X o (tM L p (VR L) (evE ev co) W)) (ha : PA X (e :: es) (tM L p (VRs L) (evEs ev ces) W)) : PE X (.Call (.Attribute o m p1) (e :: es) [] pos) (tM L p (VR L) (evE ev (.bm b co ces)) W) := by
  obtain ⟨sl1, sl2, sl3⟩ := bm_slot b hm
  obtain ⟨ca, cb, c1, c2, rfl⟩ := cL_cons hc
  refine ⟨fun pins s σ H Q I q => ?_⟩
  have hfew : ((backTo pos (starEach (e :: es) X.env)).all (fun x => !x.1) && (backToKw pos (keywordEach [] X.env)).all (fun x => x.1.isSome)
      && decide ((e :: es).length + ([] : List Keyword).length + (if ([] : List Keyword).isEmpty then 0 else 1) < 30)) = true := by
    rw [plain_all pos X.env hc]
    have : (e :: es).length + ([] : List Keyword).length + (if ([] : List Keyword).isEmpty then 0 else 1) < 30 := by simpa using hl
    simp only [Bool.true_and, Bool.and_eq_true, decide_eq_true_eq]
    exact ⟨rfl, this⟩
  have pn := q.1
  obtain ⟨_, ρ, env, h0, R, er, pa, r⟩ := q
  simp only [evE] at r
  refine wpAny_Call_method_late (base_of hpl) hfew hline rfl (thn (ho.run pins s σ H _ I (tM_next (P := VR L) (m := evE ev co) (f := fun env x => M.bind (bmK b x) fun _ => M.bind (evEs ev (.cons ca cb) env) fun xs => bmD b x xs) pn R er pa r
    (Q2 := fun x H1 => ∃ ρ1 env h1 d, Rep L ρ1 h1 H1 ∧ ERel L.K ρ1 H1 env σ ∧ Past p ρ1 H1 ∧ VRel L.K ρ1 H1 d x ∧ tyV L.K (bmT b) x H1 ∧ res L (VR L) ρ1 H1 (M.bind (evEs ev (.cons ca cb) env) (fun xs => bmD b d xs) h1) Q (fun c d H' => W c d σ H')) ?_)) fun v s1 ⟨x, H1, I1, r1, ρ1, env1, h1, d, R1, er1, pa1, rd, ty, q1⟩ => ?_)
  · intro ρ1 H1 h1 d x e1 R1 er1 pa1 rd r1
    have q2 := res.bind (P := UR) r1
    obtain ⟨ty, ek⟩ := bm_ty R1 rd q2
    refine ⟨ρ1, env, h1, d, R1, er1, pa1, rd, ty, ?_⟩
    simp only [M.bind, ek] at r1
    exact r1
  · obtain ⟨t1, t2⟩ := tyV_is I1 r1 (by rw [C.x0.K]; exact ty)
    refine ⟨bmT b, bmI b, sl1, sl2, sl3, t1, t2, ?_⟩
    have hA := ha.run pos pins s1 σ H1 (fun vs H2 => ∃ ρ2 h2 ds, Rep L ρ2 h2 H2 ∧ VRel L.K ρ2 H2 d x ∧ VRels L.K ρ2 H2 ds vs ∧ res L (VR L) ρ2 H2 (bmD b d ds h2) Q (fun c d H' => W c d σ H')) I1
      (tM_next (P := VRs L) (m := evEs ev (.cons ca cb)) (f := fun _ xs => bmD b d xs) pn R1 er1 pa1 q1 fun ρ2 H2 h2 ds vs e2 R2 er2 pa2 rds r2 => ⟨ρ2, h2, ds, R2, rd.mono e2, rds, r2⟩)
    rw [star_of c1 es X.env] at hA ⊢
    refine Calls.callWith_builtin (by show (false || (backTo pos (starEach es X.env)).any (·.1)) = false; rw [plain_of pos _ c2]; rfl) (Calls.evalArgs_plain ?_)
    exact thn hA fun us s2 ⟨vs, H2, I2, r2, ρ2, h2, ds, R2, rd2, rds, q2⟩ => bm_ok b X pins s2 σ H2 x v vs us Q _ ρ2 h2 d ds C.x0 hh I2 r1 r2 R2 rd2 rds q2
/-! ### isinstance -/
theorem ty_boot {x : Str} {t : Ty} (h : cTy x = some t) : bootBuiltins x = some (.type (tyN t)) := by
  unfold cTy at h
  repeat' split at h
  all_goals first | (cases h; done) | skip
  all_goals (cases h; subst_vars; first
    | exact PyProof.Rows.boot_int | exact PyProof.Rows.boot_bool | exact PyProof.Rows.boot_str | exact PyProof.Rows.boot_tuple | exact PyProof.Rows.boot_list | exact PyProof.Rows.boot_dict)
theorem pe_isiM (C : CxOk L Γ n ev p X) {k : Nat} {a : Expr} {ca : CE} {x t : Str} {ty : Ty} {W : WX} {p1 p2 pos : Pos} (hx : x = "isinstance") (hg : globB Γ.sc x = true) (hb : x ∈ Γ.g.bl) (hg2 : globB Γ.sc t = true) (hb2 : t ∈ Γ.g.bl) (ht : cTy t = some ty) (hc : cE k Γ a = some ca)
    (ha : PE X a (tM L p (VR L) (evE ev ca) W)) : PE X (.Call (.Name x p1) [a, .Name t p2] [] pos) (tM L p (VR L) (evE ev (.isi ca ty)) W) := by
  refine ⟨fun pins s σ H Q I q => ?_⟩
  obtain ⟨g1, g2, _, g3⟩ := gl_of C hg
  obtain ⟨k1, k2, _, k3⟩ := gl_of C hg2
  refine wpAny_Call_Name_kw (ld_blt I g1 (by rw [C.x0.mg]; exact C.gb.bl x hb) (u := .builtin "isinstance") (by rw [hx]; exact PyProof.Rows.boot_isinstance) ?_ g3 g2)
  have ht2 : PE X (.Name t p2) (tC (.ty (tyN ty))) := pe_bltn k1 (by rw [C.x0.mg]; exact C.gb.bl t hb2) (ty_boot ht) rfl k3 k2
  have pa2 : PA X [a, .Name t p2] (tCons (tM L p (VR L) (evE ev ca) W) (tCons (tC (.ty (tyN ty))) tNil)) := pa_cons ha (pa_cons ht2 pa_nil (by rfl)) (star_of hc _ _)
  have q := tM_bind (P := VR L) (f := fun _ x => fun h => match isTy h ty x with | some k => MX.R.ok (D.bl k) h | none => .bad) q
  have q2 : tCons (tM L p (VR L) (evE ev ca) W) (tCons (tC (.ty (tyN ty))) tNil) σ H (fun vs H1 => ∃ x, vs = [x, .ty (tyN ty)] ∧ ∃ ρ1 env h1 d, Rep L ρ1 h1 H1 ∧ ERel L.K ρ1 H1 env σ ∧ Past p ρ1 H1 ∧ VRel L.K ρ1 H1 d x ∧
      res L (VR L) ρ1 H1 (match isTy h1 ty d with | some k => MX.R.ok (D.bl k) h1 | none => .bad) Q (fun c d H' => W c d σ H')) := by
    obtain ⟨pn, ρ, env, h0, R, er, pa, r⟩ := q
    exact ⟨pn, ρ, env, h0, R, er, pa, r.mono fun x H1 z => ⟨x, rfl, z⟩⟩
  refine PyProof.Rows.callWith_builtin1 (thn (pa2.run pos pins s σ H _ I q2) fun us s1 ⟨vs, H1, I1, rv, x, ev', ρ1, env, h1, d, R1, er1, pa1, rd, r1⟩ => ?_) (star_of hc _ _) (by rfl)
  subst ev'
  split at r1
  · next kk e => exact isi_ok C.x0 I1 rv R1 rd e (r1.ret R1 (.bl _))
  · exact r1.elim
end
end MX
set_option maxHeartbeats 4000000
namespace MX
open PySem PySem.Spec PyProof.Rows L2
section
variable {L : Lk} {Γ : Cn} {n : Nat} {ev : Ev} {p : Pn} {X : Cx}
theorem bind_assoc' {α β γ : Type} {m : M α} {f : α → M β} {g : β → M γ} : M.bind (M.bind m f) g = M.bind m fun a => M.bind (f a) g := by
  funext h
  unfold M.bind
  cases m h <;> rfl
/-! ### displays with stars -/
theorem pa_listS (hK : X.K = L.K) {k : Nat} {W : WX} (ih : ∀ e ce, cE k Γ e = some ce → PE X e (tM L p (VR L) (evE ev ce) W)) : ∀ {es : List Expr} {r : CEs}, cLS (cE k Γ) es = some r → PA X es (tM L p (VRs L) (evEs ev r) W)
  | [], r, h => by
    cases h
    exact PA.imp pa_nil fun σ H Q ⟨_, ρ, env, hh, R, er, _, r⟩ => r.ret R .nil
  | e :: es, r, h => by
    unfold cLS at h
    split at h
    · next e0 q0 =>
      simp only [Option.bind_eq_bind, Option.bind_eq_some_iff, Option.some.injEq] at h
      obtain ⟨a, h1, b, h2, rfl⟩ := h
      refine PA.imp (StX.pa_star (ih e0 a h1) (pa_listS hK ih h2)) fun σ H Q q => ?_
      have pn := q.1
      obtain ⟨_, ρ, env, h0, R, er, pa, r⟩ := q
      simp only [evEs] at r
      rw [bind_assoc'] at r
      refine tM_next (P := VR L) (m := evE ev a) (f := fun env x => M.bind (seqM x) fun xs => M.bind (evEs ev b env) fun ys => M.pure (xs ++ ys)) pn R er pa r fun ρ1 H1 h1 d v e1 R1 er1 pa1 rd r1 => ?_
      simp only [M.bind, seqM] at r1
      cases es' : seqOf h1 d with
      | none =>
        rw [es'] at r1
        exact r1.elim
      | some xs =>
        rw [es'] at r1
        obtain ⟨a1, vs, rfl, r3, hs⟩ := seq_at (K := X.K) hK R1 rd es'
        refine ⟨a1, vs, rfl, ?_, ?_⟩
        · rcases hs with z | z
          · exact .inr z
          · exact .inl z.1
        · refine tM_next (P := VRs L) (m := evEs ev b) (f := fun _ ys => M.pure (xs ++ ys)) pn R1 er1 pa1 r1 fun ρ2 H2 h2 ds us e2 R2 er2 pa2 rds r2 => ?_
          exact r2.ret R2 ((r3.mono e2).append rds)
    · next e' nz =>
      simp only [Option.bind_eq_bind, Option.bind_eq_some_iff, Option.some.injEq] at h
      obtain ⟨a, h1, b, h2, rfl⟩ := h
      refine PA.imp (pa_cons (ih e a h1) (pa_listS hK ih h2) (star_of h1 es _)) fun σ H Q q => ?_
      have pn := q.1
      obtain ⟨_, ρ, env, h0, R, er, pa, r⟩ := q
      simp only [evEs] at r
      refine tM_next (P := VR L) (m := evE ev a) (f := fun env x => M.bind (evEs ev b env) fun xs => M.pure (x :: xs)) pn R er pa r fun ρ1 H1 h1 d v e1 R1 er1 pa1 rd r1 => ?_
      refine tM_next (P := VRs L) (m := evEs ev b) (f := fun _ xs => M.pure (d :: xs)) pn R1 er1 pa1 r1 fun ρ2 H2 h2 ds vs e2 R2 er2 pa2 rds r2 => ?_
      exact r2.ret R2 (.cons (rd.mono e2) rds)
/-! ### calls with one starred argument -/
theorem call_fin (C : CxOk L Γ n ev p X) {x : Str} {i : Nat} {W : WX} {a : Addr} (tk : Takes X W) (hp : posOf Γ.g.fns x = some i) (hh : Γ.hot = false) (ha0 : L.fa i = a) (hd0 : L.pg.dfl i = []) {pins : List (Addr × Obj)} {σ : L2.St} {Q : VK} {s1 : Shared} {H1 : Hp} {vs : List V} {us : List Value}
    (I1 : Inv X pins σ H1 s1) (rv : Vals vs us) {ρ1 : List Addr} {h1' : Hh} {ds : List D} (R1 : Rep L ρ1 h1' H1) (rds : VRels L.K ρ1 H1 ds vs)
    (r1 : res L (VR L) ρ1 H1 ((match ev.l with | c :: _ => c.call i ds | [] => M.bad) h1') Q (fun c d H' => W c d σ H')) : wpAny (model X.prog X.w) X.A (call (.ref a) us) (EP X pins σ Q) X.xe s1 := by
  rw [C.lev] at r1
  cases n with
  | zero => exact r1.elim
  | succ m =>
    obtain ⟨a', fd, ps, f1, f2, f3, F, hnp⟩ := (C.fns 0 m (by omega) i x (fns_at hp)).ex
    rw [ha0] at f1
    subst f1
    rw [hd0] at f3
    have f3 := f3.all0
    have r1 : res L (VR L) ρ1 H1 ((mkCl L.pg (tabs L.pg m)).call i ds h1') Q (fun c d H' => W c d σ H') := r1
    have hlen : vs.length = ps.length := by
      have r2 := r1
      simp only [mkCl] at r2
      split at r2
      · next fd' e =>
        split at r2
        · next e2 => rw [← rds.length, e2.2, hnp fd' e]
        · exact r2.elim
      · exact r2.elim
    refine run_fnM (X := X) (E := WE W σ) (by rw [C.x0.K, C.x0.mg]; exact F) (C.room hh) C.x0.gd (by rw [C.x0.K]; exact f3) (passAt tk σ) I1 rv ?_
    exact ⟨hlen, ρ1, h1', ds, R1, rds, r1⟩
theorem pe_callSM (C : CxOk L Γ n ev p X) {x : Str} {i : Nat} {e0 : Expr} {ce : CE} {W : WX} {p1 q0 pos : Pos} (tk : Takes X W) (hg : globB Γ.sc x = true) (hp : posOf Γ.g.fns x = some i) (hh : Γ.hot = false)
    (he : PE X e0 (tM L p (VR L) (evE ev ce) W)) : PE X (.Call (.Name x p1) [.Starred e0 q0] [] pos) (tM L p (VR L) (evE ev (.call i (.star ce .nil))) W) := by
  refine ⟨fun pins s σ H Q I q => ?_⟩
  obtain ⟨g1, g2, _, _⟩ := gl_of C hg
  obtain ⟨a, hm, hk, ha0, hd0⟩ := C.gb.fnv x i hp
  refine wpAny_Call_Name_kw (ld_glob I g1 (by rw [C.x0.mg]; exact hm) ?_ g2)
  have q2 : tM L p (VR L) (evE ev ce) W σ H (fun y H1 => ∃ a1 xs, y = V.ref a1 ∧ (SqT X.K H1 a1 xs ∨ SqL X.K H1 a1 xs) ∧ ∃ ρ1 h1 ds, Rep L ρ1 h1 H1 ∧ VRels L.K ρ1 H1 ds xs ∧
      res L (VR L) ρ1 H1 ((match ev.l with | c :: _ => c.call i ds | [] => M.bad) h1) Q (fun c d H' => W c d σ H')) := by
    have pn := q.1
    obtain ⟨_, ρ, env, h0, R, er, pa, r⟩ := q
    simp only [evE, evEs] at r
    rw [bind_assoc', bind_assoc'] at r
    refine tM_next (P := VR L) (m := evE ev ce) (f := fun env x => M.bind (seqM x) fun xs => M.bind (M.bind (M.pure []) fun ys => M.pure (xs ++ ys)) fun xs => match ev.l with | c :: _ => c.call i xs | [] => M.bad) pn R er pa r fun ρ1 H1 h1 d v e1 R1 er1 pa1 rd r1 => ?_
    simp only [M.bind, seqM] at r1
    cases es' : seqOf h1 d with
    | none =>
      rw [es'] at r1
      exact r1.elim
    | some xs =>
      rw [es'] at r1
      obtain ⟨a1, vs, rfl, r3, hs⟩ := seq_at (K := X.K) C.x0.K R1 rd es'
      refine ⟨a1, vs, rfl, ?_, ρ1, h1, xs, R1, r3, ?_⟩
      · rcases hs with z | z
        · exact .inr z
        · exact .inl z.1
      · simp only [M.pure, List.append_nil] at r1
        exact r1
  refine PySem.W.callWith_S (h₀ := X.base) I.ok.mod.kin (by rw [C.x0.K]; exact hk) (thn (he.run pins s σ H _ I q2) fun v s1 ⟨y, H1, I1, ry, a1, xs, ey, hxs, ρ1, h1, ds, R1, rds, r1⟩ => ?_) rfl
  subst ey
  obtain rfl : v = Value.ref a1 := ry
  exact StX.star_any I1 hxs fun us s2 I2 rv => ⟨I2.kIn, call_fin C tk hp hh ha0 hd0 I2 rv R1 rds r1⟩
/-! ### slices -/
abbrev PR : List Addr → Hp → Option Int → Option Int → Prop := fun _ _ a b => a = b
def tPM (L : Lk) (p : Pn) (m : Env → M (Option Int)) (W : WX) : TO := fun σ H Q => Pins p σ ∧ ∃ ρ env h, Rep L ρ h H ∧ ERel L.K ρ H env σ ∧ Past p ρ H ∧ res L PR ρ H (m env h) Q (fun c d H' => W c d σ H')
theorem po_m {k : Nat} {W : WX} (ih : ∀ e ce, cE k Γ e = some ce → PE X e (tM L p (VR L) (evE ev ce) W)) {e : Option Expr} {b : Bool × CE} (h : cP (cE k Γ) e = some b) : ∃ t : TO, PO X e t ∧ ∀ σ H Q, tPM L p (fun env => M.bind (evE ev b.2 env) (partM b.1)) W σ H Q → t σ H Q := by
  cases e with
  | none =>
    cases h
    refine ⟨_, po_none, fun σ H Q ⟨pn, ρ, env, h0, R, er, pa, r⟩ => ?_⟩
    exact r ρ H none (Ext.refl _ _) R rfl
  | some e =>
    unfold cP at h
    simp only [Option.map_eq_some_iff] at h
    obtain ⟨a, h1, rfl⟩ := h
    refine ⟨_, po_some (ih e a h1), fun σ H Q q => ?_⟩
    obtain ⟨pn, ρ, env, h0, R, er, pa, r⟩ := q
    refine ⟨pn, ρ, env, h0, R, er, pa, (res.bind (P := VR L) r).mono fun x H1 => ?_⟩
    rintro ⟨ρ1, h1', d, e1, R1, rd, r1⟩
    cases rd with
    | int i => exact ⟨i, rfl, r1 ρ1 H1 _ (Ext.refl _ _) R1 rfl⟩
    | _ => exact r1.elim
theorem cut_rel {K : PySem.W.Frag} {ρ : List Addr} {H : Hp} {ds : List D} {vs : List V} (r : VRels K ρ H ds vs) (lo hi : Option Int) : VRels K ρ H (cutD ds lo hi) (cutV vs lo hi) := by
  unfold cutD cutV
  rw [r.length]
  exact (r.drop _).take _
theorem pe_slcM (C : CxOk L Γ n ev p X) {k : Nat} {W : WX} (ih : ∀ e ce, cE k Γ e = some ce → PE X e (tM L p (VR L) (evE ev ce) W)) {a : Expr} {ca : CE} {lo hi : Option Expr} {l u : Bool × CE} {p2 pos : Pos} (h1 : cE k Γ a = some ca) (h2 : cP (cE k Γ) lo = some l) (h3 : cP (cE k Γ) hi = some u) :
    PE X (.Subscript a (.Slice lo hi none p2) pos) (tM L p (VR L) (evE ev (.slc ca l.1 l.2 u.1 u.2)) W) := by
  obtain ⟨tl, pl, rl⟩ := po_m ih h2
  obtain ⟨tu, pu, ru⟩ := po_m ih h3
  refine PE.imp (pe_slice (SlR.or sl_list sl_tupA) (ih a ca h1) pl pu) fun σ H Q q => ?_
  have pn := q.1
  obtain ⟨_, ρ, env, h0, R, er, pa, r⟩ := q
  simp only [evE] at r
  refine tM_next (P := VR L) (m := evE ev ca) (f := fun env x => M.bind (M.bind (evE ev l.2 env) (partM l.1)) fun i => M.bind (M.bind (evE ev u.2 env) (partM u.1)) fun j => slcD x i j) pn R er pa r fun ρ1 H1 h1 d v e1 R1 er1 pa1 rd r1 => ?_
  refine rl _ _ _ ⟨pn, ρ1, env, h1, R1, er1, pa1, (res.bind (P := PR) r1).mono fun i H2 => ?_⟩
  rintro ⟨ρ2, h2, i', e2, R2, rfl, r2⟩
  refine ru _ _ _ ⟨pn, ρ2, env, h2, R2, er1.mono e2, pa1.trans e2, (res.bind (P := PR) r2).mono fun j H3 => ?_⟩
  rintro ⟨ρ3, h3, j', e3, R3, rfl, r3⟩
  have rd3 := (rd.mono e2).mono e3
  cases rd3 with
  | tup ht hv =>
    refine .inr ⟨_, _, rfl, by rw [C.x0.K]; exact ht.sq, fun z => ?_, fun z pp np => res_tup R3 (cut_rel hv _ _) r3 np⟩
    refine r3.ret R3 (.tup ht ?_)
    have := cut_rel hv i' j'
    have e0 : ∀ vs : List V, HT.sIx vs.length 0 i' = 0 → HT.sIx vs.length vs.length j' = vs.length → cutV vs i' j' = vs := fun vs z1 z2 => by
      unfold cutV
      rw [z1, z2]
      simp
    rw [e0 _ z.1 z.2] at this
    exact this
  | @ref r a hr =>
    simp only [slcD] at r3
    split at r3
    · next xs e4 =>
      obtain ⟨vs, g1, g2⟩ := lst_at R3 hr e4
      exact .inl ⟨a, vs, rfl, .inl (.inl g1), fun pp np => res_alloc R3 (cut_rel g2 _ _) r3 np⟩
    · exact r3.elim
  | _ => exact r3.elim
/-! ### list(range(..)) -/
theorem rng_rel {K : PySem.W.Frag} {ρ : List Addr} {H : Hp} (i j : Int) : VRels K ρ H (rngI i j) (rgV i j) := by
  unfold rngI rgV
  generalize List.range (j - i).toNat = l
  induction l with
  | nil => exact .nil
  | cons k l ih => exact .cons (.int _) ih
theorem rgOk_of {i j : Int} (h : rgOk i j = true) : RgOk i j := by
  unfold rgOk at h
  simp only [Bool.and_eq_true, decide_eq_true_eq] at h
  exact ⟨h.1.1.1.1, h.1.1.1.2, h.1.1.2, h.1.2, h.2⟩
theorem pe_lrngM (C : CxOk L Γ n ev p X) (hh : Γ.hot = false) {k : Nat} {W : WX} (ih : ∀ e ce, cE k Γ e = some ce → PE X e (tM L p (VR L) (evE ev ce) W)) {x : Str} {args : List Expr} {a : Option Expr} {b : Expr} {ca : Bool × CE} {cb : CE} {p1 pos : Pos}
    (hg : globB Γ.sc x = true) (hb : x ∈ Γ.g.bl) (hr : rgArgs Γ x args = some (a, b)) (h1 : cP (cE k Γ) a = some ca) (h2 : cE k Γ b = some cb) : PE X (.Call (.Name x p1) args [] pos) (tM L p (VR L) (evE ev (.lrng ca.1 ca.2 cb)) W) := by
  unfold rgArgs at hr
  split at hr
  · next hx =>
    subst hx
    split at hr
    · next y q1 ras q2 =>
      split at hr
      · next hy =>
        subst hy
        split at hr
        · next hb2 =>
          simp only [Bool.and_eq_true, decide_eq_true_eq] at hb2
          obtain ⟨g1, g2, _, g3⟩ := gl_of C hg
          obtain ⟨k1, k2, _, k3⟩ := gl_of C hb2.1.1
          have hm1 : X.mg "list" = none := by rw [C.x0.mg]; exact C.gb.bl _ hb
          have hm2 : X.mg "range" = none := by rw [C.x0.mg]; exact C.gb.bl _ hb2.1.2
          have fin : ∀ {H : Hp} {Q : VK} {ρ : List Addr} {h : Hh} {d e : D} {v u : V} {W' : Value → Option Addr → Hp → Prop}, Rep L ρ h H → VRel L.K ρ H d v → VRel L.K ρ H e u → res L (VR L) ρ H (lrngM d e h) Q W' → ∃ i j : Int, v = .int i ∧ u = .int j ∧ RgOk i j ∧ ∀ q, H q = none → Q (.ref q) (upd H q (.lst (rgV i j))) := by
            intro H Q ρ h d e v u W' R rd re r
            cases rd with
            | int i =>
              cases re with
              | int j =>
                simp only [lrngM] at r
                split at r
                · next ho => exact ⟨i, j, rfl, rfl, rgOk_of ho, fun q hq => res_alloc R (rng_rel i j) r hq⟩
                · exact r.elim
              | _ => exact r.elim
            | _ => exact r.elim
          split at hr
          · cases hr
            cases h1
            refine PE.imp (pe_listRg (C.calm hh) g1 hm1 (prg_1 k1 hm2 (ih b cb h2) (star_of h2 _ _))) fun σ H Q q => ?_
            obtain ⟨pn, ρ, env, h0, R, er, pa, r⟩ := tM_bind (P := VR L) (f := fun _ y => lrngM (.int 0) y) q
            refine ⟨pn, ρ, env, h0, R, er, pa, r.mono fun x H1 => ?_⟩
            rintro ⟨ρ1, env1, h1, d, R1, er1, pa1, rd, r1⟩
            obtain ⟨i, j, e1, e2, ok, z⟩ := fin R1 (.int 0) rd r1
            cases e1
            exact ⟨j, e2, ok, z⟩
          · next a' _ =>
            cases hr
            unfold cP at h1
            simp only [Option.map_eq_some_iff] at h1
            obtain ⟨a1, h1, rfl⟩ := h1
            refine PE.imp (pe_listRg (C.calm hh) g1 hm1 (prg_2 k1 hm2 (ih _ a1 h1) (ih b cb h2) (star_of h1 _ _) (star_of h2 _ _) (by rw [star_of h2]; rfl))) fun σ H Q q => ?_
            have pn := q.1
            obtain ⟨_, ρ, env, h0, R, er, pa, r⟩ := q
            simp only [evE] at r
            refine tM_next (P := VR L) (m := evE ev a1) (f := fun env x => M.bind (evE ev cb env) fun y => lrngM x y) pn R er pa r fun ρ1 H1 h1 d v e1 R1 er1 pa1 rd r1 => ?_
            refine tM_next (P := VR L) (m := evE ev cb) (f := fun _ y => lrngM d y) pn R1 er1 pa1 r1 fun ρ2 H2 h2 d2 v2 e2 R2 er2 pa2 rd2 r2 => ?_
            obtain ⟨i, j, e1, e2, ok, z⟩ := fin R2 (rd.mono e2) rd2 r2
            exact ⟨i, j, e1, e2, ok, z⟩
          · cases hr
        · cases hr
      · cases hr
    · cases hr
  · cases hr
end
end MX
set_option maxHeartbeats 4000000
namespace MX
open PySem PySem.Spec PyProof.Rows L2
section
variable {L : Lk} {ρ : List Addr} {h : Hh} {H : Hp}
theorem ins_at (R : Rep L ρ h H) {r : Nat} {a : Addr} {c : Nat} {fs : List (Str × D)} (e : ρ[r]? = some a) (o : h[r]? = some (.ins c fs)) : ∃ dx gs, H a = some (.ins (L.clI c) dx gs) ∧ FRels L ρ H fs gs := by
  obtain ⟨u, e1, e2⟩ := R.obj r a _ e o
  cases e2 with
  | ins q => exact ⟨_, _, e1, q⟩
variable {Γ : Cn} {n : Nat} {ev : Ev} {p : Pn} {X : Cx}
/-! ### fields -/
theorem pe_fldM (C : CxOk L Γ n ev p X) {o : Expr} {co : CE} {f : Str} {W : WX} {pos : Pos} (hpl : plainO o = true) (hf : f ∈ Γ.g.ifl) (ho : PE X o (tM L p (VR L) (evE ev co) W)) : PE X (.Attribute o f pos) (tM L p (VR L) (evE ev (.fld f co)) W) := by
  refine ⟨fun pins s σ H Q I q => ?_⟩
  refine attr_of (base_of hpl) (thn (ho.run pins s σ H _ I (tM_bind (P := VR L) (f := fun _ d => fldD ev.pg f d) q)) fun u s1 ⟨x, H1, I1, rx, ρ1, env1, h1, d, R1, er1, pa1, rd, r1⟩ => ?_)
  rw [C.pg] at r1
  simp only [fldD] at r1
  split at r1
  · next c g d' =>
    split at r1
    · next hc =>
      obtain ⟨rfl, hc⟩ := hc
      obtain ⟨C', n1, n2, n3⟩ := C.gb.xfd c g hc
      rw [← C.x0.K] at n1 n2 n3
      have rd' : VRel X.K ρ1 H1 (.exn c g [d']) x := by
        rw [C.x0.K]
        exact rd
      exact xfld_run I1 n2 n3 n1 rd' rx fun y ry => r1.ret R1 (by rw [C.x0.K] at ry; exact ry)
    · exact r1.elim
  · next k =>
    split at r1
    · next c fs e =>
      split at r1
      · next hi =>
        split at r1
        · next d' el =>
          cases rd with
          | @ref _ a hr =>
            obtain rfl : u = Value.ref a := rx
            obtain ⟨dx, gs, e1, e2⟩ := ins_at R1 hr e
            obtain ⟨v, e3, rv⟩ := e2.look.2 d' el
            exact getattr_ok I1 e1 (by rw [C.x0.K]; exact C.gb.icl c hi) (by rw [C.x0.K]; exact C.gb.ifl c f hi hf) e3 fun u' s2 I2 ru => ⟨v, H1, I2, ru, r1.ret R1 rv⟩
        · exact r1.elim
      · exact r1.elim
    · exact r1.elim
  · exact r1.elim
/-- a field stored -/
theorem ps_fldM (C : CxOk L Γ n ev p X) {o e : Expr} {co ce : CE} {f : Str} {W : WX} {q1 pos : Pos} (hf : f ∈ Γ.g.ifl) (hs : swapsWith e (some (.Attribute o f q1)) pos.line X.env = pure false) (ho : PE X o (tM L p (VR L) (evE ev co) W)) (he : PE X e (tM L p (VR L) (evE ev ce) W)) :
    PS X (.Assign [.Attribute o f q1] e pos) (tS L p (exS ev (.setF f co ce)) W) := by
  refine PS.imp (ps_fld ho he hs) fun D σ H q => ?_
  obtain ⟨pn, ρ, env, h0, R, er, pa, r⟩ := q
  simp only [exS] at r
  unfold liftE at r
  cases e1 : evE ev ce env h0 with
  | bad =>
    simp only [M.bind, e1] at r
    exact r.elim
  | exc x h' =>
    simp only [M.bind, e1] at r
    refine ⟨pn, ρ, env, h0, R, er, pa, ?_⟩
    rw [e1]
    exact fun ρ' H' c d e' R' xr => r ρ' H' σ c d e' R' (er.mono e') pn xr
  | ok d h1 =>
    refine ⟨pn, ρ, env, h0, R, er, pa, ?_⟩
    rw [e1]
    intro ρ1 H1 v x1 R1 rd
    simp only [M.bind, e1] at r
    have r1 := resS.later x1 r
    cases e2 : evE ev co env h1 with
    | bad =>
      rw [e2] at r1
      exact r1.elim
    | exc x h' =>
      rw [e2] at r1
      refine ⟨pn, ρ1, env, h1, R1, er.mono x1, pa.trans x1, ?_⟩
      rw [e2]
      exact fun ρ' H' c d e' R' xr => r1 ρ' H' σ c d e' R' ((er.mono x1).mono e') pn xr
    | ok y h2 =>
      refine ⟨pn, ρ1, env, h1, R1, er.mono x1, pa.trans x1, ?_⟩
      rw [e2] at r1 ⊢
      intro ρ2 H2 u x2 R2 ru
      have r2 := resS.later x2 r1
      have rd2 := rd.mono x2
      have er2 := (er.mono x1).mono x2
      rw [C.pg] at r2
      cases ru with
      | @ref k a hr =>
        cases e3 : h2[k]? with
        | none =>
          have z : setFD L.pg f (.ref k) d h2 = .bad := by simp only [setFD, e3]
          simp only [z] at r2
          exact r2.elim
        | some ob =>
          cases ob with
          | ins c fs =>
            by_cases hi : L.pg.inst c = true ∧ fs.length < 900
            · have z : setFD L.pg f (.ref k) d h2 = .ok () (h2.set k (.ins c (putA f d fs))) := by simp only [setFD, e3, if_pos hi]
              simp only [z] at r2
              obtain ⟨dx, gs, g1, g2⟩ := ins_at R2 hr e3
              refine ⟨a, L.clI c, dx, gs, rfl, g1, by rw [C.x0.K]; exact C.gb.icl c hi.1, by rw [C.x0.K]; exact C.gb.ifl c f hi.1 hf, by rw [← g2.length]; omega, ?_⟩
              have E : Ext ρ2 H2 ρ2 (upd H2 a (.ins (L.clI c) dx (putF f v gs))) := ext_upd R2 hr e3
              exact r2 ρ2 _ σ E (R2.set hr e3 (.ins (FRels.put rd2 g2))) (er2.mono E) pn
            · have z : setFD L.pg f (.ref k) d h2 = .bad := by simp only [setFD, e3, if_neg hi]
              simp only [z] at r2
              exact r2.elim
          | _ =>
            have z : setFD L.pg f (.ref k) d h2 = .bad := by simp only [setFD, e3]
            simp only [z] at r2
            exact r2.elim
      | _ => exact r2.elim
/-! ### methods -/
/-- a def run at one level less -/
theorem run_at (C : CxOk L Γ n ev p X) {i : Nat} {x : Str} {W : WX} {pins : List (Addr × Obj)} {σ : L2.St} {H : Hp} {s : Shared} {Q : VK} {ρ : List Addr} {h : Hh} {ds : List D} {vs : List V} {us : List Value} (hh : Γ.hot = false) (tk : Takes X W) (hx : (Γ.g.fns ++ Γ.g.mfn)[i]? = some x) (hd0 : L.pg.dfl i = [])
    (I : Inv X pins σ H s) (rv : Vals vs us) (R : Rep L ρ h H) (rds : VRs L ρ H ds vs) (r : res L (VR L) ρ H ((match ev.l with | c :: _ => c.call i ds | [] => M.bad) h) Q (fun c d H' => W c d σ H')) :
    wpAny (model X.prog X.w) X.A (call (.ref (L.fa i)) us) (EP X pins σ Q) X.xe s := by
  rw [C.lev] at r
  cases n with
  | zero => exact r.elim
  | succ m =>
    obtain ⟨a', fd, ps, f1, f2, f3, F, hnp⟩ := (C.fns 0 m (by omega) i x hx).ex
    subst f1
    rw [hd0] at f3
    have f3 := f3.all0
    have r : res L (VR L) ρ H ((mkCl L.pg (tabs L.pg m)).call i ds h) Q (fun c d H' => W c d σ H') := r
    have hlen : vs.length = ps.length := by
      have r2 := r
      simp only [mkCl] at r2
      split at r2
      · next fd' e =>
        split at r2
        · next e2 => rw [← rds.length, e2.2, hnp fd' e]
        · exact r2.elim
      · exact r2.elim
    refine run_fnM (X := X) (E := WE W σ) (by rw [C.x0.K, C.x0.mg]; exact F) (C.room hh) C.x0.gd (by rw [C.x0.K]; exact f3) (passAt tk σ) I rv ?_
    exact ⟨hlen, ρ, h, ds, R, rds, r⟩
theorem meth_call {M0 : Model} {A : Around} {E : Value → Shared → Prop} {s : Shared} {env : PySem.Env} {o : Expr} {m : Str} {p1 pos : Pos} {es : List Expr} {Q : Value → Shared → Prop} (hb : attributeBase o m env (eval o env) = eval o env)
    (hfew : methodCallForm (es.length + ([] : List Keyword).length) (backTo pos (starEach es env)) (backToKw pos (keywordEach [] env)) = true) (hl : (p1.endLine == pos.line) = true)
    (h : wpAny M0 A (eval o env) (fun y t => ∀ pl, wpAny M0 A (getMethod y m pl) (fun fx t2 => wpAny M0 A (callWith pos fx.1 fx.2 (backTo pos (starEach es env)) (backToKw pos (keywordEach [] env))) Q E t2) E t) E s) :
    wpAny M0 A (eval (.Call (.Attribute o m p1) es [] pos) env) Q E s := by
  rw [arm_eval_Call, hb]
  refine wpAny_bind (thn h fun y t ht => wpAny_bind (wpAny_standAt ?_))
  have hp : methodCallPos true o env p1 pos = pure pos := by
    unfold methodCallPos
    simp [hl]
  unfold methodCall
  rw [hfew]
  exact wpAny_bind (wpAny_holding (thn (ht _) fun fx t2 h2 => wpAny_bind (wpAny_of_eq hp h2)))
theorem pe_methM (C : CxOk L Γ n ev p X) {o : Expr} {co : CE} {m : Str} {k : Nat} {es : List Expr} {ces : CEs} {W : WX} {p1 pos : Pos} (hh : Γ.hot = false) (tk : Takes X W) (hm : m ∈ Γ.g.mns) (hc : cL (cE k Γ) es = some ces) (ho : PE X o (tM L p (VR L) (evE ev co) W))
    (ha : PA X es (tM L p (VRs L) (evEs ev ces) W)) (hpl : plainO o = true) (hline : (p1.endLine == pos.line) = true) (hl : es.length < 30) : PE X (.Call (.Attribute o m p1) es [] pos) (tM L p (VR L) (evE ev (.meth m co ces)) W) := by
  refine ⟨fun pins s σ H Q I q => ?_⟩
  have pn := q.1
  obtain ⟨_, ρ, env, h0, R, er, pa, r⟩ := q
  simp only [evE] at r
  have hfew : methodCallForm (es.length + ([] : List Keyword).length) (backTo pos (starEach es X.env)) (backToKw pos (keywordEach [] X.env)) = true := by
    have h1 : ((backTo pos (starEach es X.env)).all (fun x => !x.1) && (backToKw pos (keywordEach [] X.env)).all (fun x => x.1.isSome)
      && decide (es.length + ([] : List Keyword).length + (if ([] : List Keyword).isEmpty then 0 else 1) < 30)) = true := by
      rw [plain_all pos X.env hc]
      have : es.length + ([] : List Keyword).length + (if ([] : List Keyword).isEmpty then 0 else 1) < 30 := by simpa using hl
      simp only [Bool.true_and, Bool.and_eq_true, decide_eq_true_eq]
      exact ⟨rfl, this⟩
    exact h1
  refine meth_call (base_of hpl) hfew hline (thn (ho.run pins s σ H _ I (tM_next (P := VR L) (m := evE ev co) (f := fun env x => M.bind (mthD ev.pg m x) fun i => M.bind (evEs ev ces env) fun xs => match ev.l with | c :: _ => c.call i (x :: xs) | [] => M.bad) pn R er pa r
    (Q2 := fun x H1 => ∃ ρ1 h1 d, Rep L ρ1 h1 H1 ∧ ERel L.K ρ1 H1 env σ ∧ Past p ρ1 H1 ∧ VRel L.K ρ1 H1 d x ∧ res L (VR L) ρ1 H1 (M.bind (mthD ev.pg m d) (fun i => M.bind (evEs ev ces env) fun xs => match ev.l with | c :: _ => c.call i (d :: xs) | [] => M.bad) h1) Q (fun c d H' => W c d σ H'))
    fun ρ1 H1 h1 d x e1 R1 er1 pa1 rd r1 => ⟨ρ1, h1, d, R1, er1, pa1, rd, r1⟩)) fun u s1 ⟨x, H1, I1, rx, ρ1, h1, d, R1, er1, pa1, rd, r1⟩ pl => ?_)
  rw [C.pg] at r1
  cases rd with
  | @ref kk a hr =>
    obtain rfl : u = Value.ref a := rx
    cases e3 : h1[kk]? with
    | none =>
      simp only [M.bind, mthD, e3] at r1
      exact r1.elim
    | some ob =>
      cases ob with
      | ins c fs =>
        by_cases hi : L.pg.inst c = true ∧ fs.lookup m = none
        · cases e4 : L.pg.mth c m with
          | none =>
            simp only [M.bind, mthD, e3, if_pos hi, e4] at r1
            exact r1.elim
          | some i =>
            have em : mthD L.pg m (.ref kk) h1 = .ok i h1 := by simp only [mthD, e3, if_pos hi, e4]
            obtain ⟨dx, gs, g1, g2⟩ := ins_at R1 hr e3
            obtain ⟨M0, hd0, y, hy⟩ := C.gb.mth c m i hi.1 hm e4
            have r1 : res L (VR L) ρ1 H1 (M.bind (evEs ev ces env) (fun xs => match ev.l with | c :: _ => c.call i (D.ref kk :: xs) | [] => M.bad) h1) Q (fun c d H' => W c d σ H') := by
              have r3 := r1
              simp only [M.bind, em] at r3
              exact r3
            refine getmeth_ok I1 g1 (by rw [C.x0.K]; exact C.gb.icl c hi.1) (by rw [C.x0.K]; exact M0) (g2.look.1 hi.2) ?_
            have hk : PySem.W.keepIn X.K (.ref (L.fa i)) = true := by rw [C.x0.K]; exact M0.kp
            have q1 : tM L p (VRs L) (evEs ev ces) W σ H1 (fun vs H2 => ∃ ρ2 h2 ds, Rep L ρ2 h2 H2 ∧ VRel L.K ρ2 H2 (.ref kk) (.ref a) ∧ VRs L ρ2 H2 ds vs ∧ res L (VR L) ρ2 H2 ((match ev.l with | c :: _ => c.call i (D.ref kk :: ds) | [] => M.bad) h2) Q (fun c d H' => W c d σ H')) :=
              tM_next (P := VRs L) (m := evEs ev ces) (f := fun _ xs => match ev.l with | c :: _ => c.call i (D.ref kk :: xs) | [] => M.bad) pn R1 er1 pa1 r1 fun ρ2 H2 h2 ds vs e2 R2 er2 pa2 rds r2 => ⟨ρ2, h2, ds, R2, .ref (e2.get hr), rds, r2⟩
            cases es with
            | nil =>
              cases hc
              refine PySem.W.callWith_K0 (first := [.ref a]) I1.kIn hk ?_
              obtain ⟨_, ρ3, env3, h3, R3, er3, pa3, r4⟩ := q1
              obtain ⟨ρ2, h2, ds, R2, rk, rds, r5⟩ := r4.ret R3 (b := []) .nil
              exact run_at (vs := [V.ref a]) C hh tk hy hd0 I1 (.cons rfl .nil) R2 (.cons rk rds) r5
            | cons e es =>
              obtain ⟨ca, cb, c1, c2, rfl⟩ := cL_cons hc
              exact PySem.W.callWith_K (first := [.ref a]) (h₀ := X.base) I.ok.mod.kin hk (thn (ha.run pos pins s1 σ H1 _ I1 q1) fun us s2 ⟨vs, H2, I2, rv, ρ2, h2, ds, R2, rk, rds, r5⟩ => ⟨I2.kIn, run_at (vs := V.ref a :: vs) C hh tk hy hd0 I2 (.cons rfl rv) R2 (.cons rk rds) r5⟩) (star_of c1 es _) (plain_of pos _ c2)
        · simp only [M.bind, mthD, e3, if_neg hi] at r1
          exact r1.elim
      | _ =>
        simp only [M.bind, mthD, e3] at r1
        exact r1.elim
  | _ => exact r1.elim
/-! ### a new instance -/
theorem guards_make {A : Around} {C : Addr} {us : List Value} (h : A.guards = some []) : (A.under (.builtin "type.__call__" ⟨.ref C :: us, []⟩)).guards = some [] := by
  have e : Code.guards (.builtin "type.__call__" ⟨.ref C :: us, []⟩) = [] := by
    unfold Code.guards
    rw [if_neg (by show ¬ (guardIds.contains "type.__call__" = true); decide +kernel)]
  unfold Around.under
  show pushGuards (Code.guards (.builtin "type.__call__" ⟨.ref C :: us, []⟩)) A.guards = some []
  rw [e, h]
  rfl
theorem run_makeM {pins : List (Addr × Obj)} {σ : L2.St} {H : Hp} {s : Shared} {Q : VK} {E : XK} {us ws : List Value} {vs zs : List V} {Ca f : Addr} {fd : FuncData} {ps : List Str} {sp : Sp} {k : Nat} (M0 : Mk X.K Ca f) (F : FnM X.prog X.w X.K X.mg X.base k f fd ps sp) (hr : Room (k + 1) X.A) (hg : X.A.guards = some [])
    (hb : Binds X.K fd ps ws) (rz : Vals zs ws) (hx : PassesAt (L2.CX X.prog X.w) X σ E) (I : Inv X pins σ H s) (r : Vals vs us)
    (h : ∀ x dx, H x = none → H dx = none → dx ≠ x → sp (.ref x :: (vs ++ zs)) (upd (upd H dx (.own x)) x (.ins Ca dx [])) (fun v H2 => v = .non ∧ Q (.ref x) H2) E) : wpAny (model X.prog X.w) X.A (call (.ref Ca) us) (EP X pins σ Q) X.xe s := by
  have hq := h (s.heap.objs.size + 1) s.heap.objs.size (I.hok.fresh (Nat.le_succ _)) (I.hok.fresh (Nat.le_refl _)) (Nat.ne_of_lt (Nat.lt_succ_self _))
  have I2 := Inv.made (C := Ca) I
  have r2 : Vals (V.ref (s.heap.objs.size + 1) :: (vs ++ zs)) (Value.ref (s.heap.objs.size + 1) :: us ++ ws) := .cons rfl (r.append rz)
  have hl : (Value.ref (s.heap.objs.size + 1) :: us ++ ws).length = ps.length := r2.length.symm.trans (F.len _ _ _ _ hq)
  have hbd := hb _ (Value.ref (s.heap.objs.size + 1) :: us) I2.kIn hl
  refine wpAny_call (make_map (f := f) I.kIn M0.makes M0.init (beq_iff_eq.mp M0.fn) (codeAny_mono (F.run _ X.stack _ _ _ _ _ _ E (hr.make Ca us []) (guards_make hg) (I2.env0.make Ca us []) hbd r2 hq) fun r s' hq' => ?_))
  match r, hq' with
  | .error e, hq' => exact hx pins _ _ e s' I2 hq'
  | .ok (.ret u), hq' =>
    obtain ⟨v, H', I3, rv, ev, q3⟩ := I2.after hq'
    subst ev
    exact ⟨rv, ⟨V.ref (s.heap.objs.size + 1), H', I3, rfl, q3⟩⟩
  | .ok .next, hq' => exact hq'.elim
  | .ok .brk, hq' => exact hq'.elim
  | .ok .cont, hq' => exact hq'.elim
theorem pe_makeM (C : CxOk L Γ n ev p X) {x : Str} {c k : Nat} {e : Expr} {es : List Expr} {ces : CEs} {W : WX} {p1 pos : Pos} (hh : Γ.hot = false) (tk : Takes X W) (hg : globB Γ.sc x = true) (hp : posOf Γ.g.icn x = some c) (hc : cL (cE k Γ) (e :: es) = some ces)
    (ha : PA X (e :: es) (tM L p (VRs L) (evEs ev ces) W)) : PE X (.Call (.Name x p1) (e :: es) [] pos) (tM L p (VR L) (evE ev (.make c ces)) W) := by
  refine ⟨fun pins s σ H Q I q => ?_⟩
  obtain ⟨g1, g2, _, _⟩ := gl_of C hg
  obtain ⟨hi, hm, i, ei, M0, y, hy⟩ := C.gb.mkc x c hp
  have q := tM_bind (P := VRs L) (f := fun _ xs => M.bind (alloc (.ins c [])) fun d => match ev.l, ev.pg.ini c with
    | _ :: k :: _, some i => M.bind (k.call i (d :: (xs ++ ev.pg.dfl i))) (nonOr d)
    | _, _ => M.bad) q
  obtain ⟨ca, cb, c1, c2, rfl⟩ := cL_cons hc
  refine wpAny_Call_Name_kw (ld_glob I g1 (by rw [C.x0.mg]; exact hm) ?_ g2)
  refine PySem.W.callWith_K (h₀ := X.base) I.ok.mod.kin (by rw [C.x0.K]; exact M0.kp) (thn (ha.run pos pins s σ H _ I q) fun us s1 ⟨vs, H1, I1, rv, ρ1, env, h1, ds, R1, er1, pa1, rds, r1⟩ => ⟨I1.kIn, ?_⟩) (star_of c1 es _) (plain_of pos _ c2)
  rw [C.pg, ei, C.lev] at r1
  match n, C with
  | 0, C => exact r1.elim
  | 1, C => exact r1.elim
  | m + 2, C =>
    obtain ⟨a', fd, ps, f1, f2, f3, F, hnp⟩ := (C.fns 1 m (by omega) i y hy).ex
    subst f1
    obtain ⟨ws, zs, f3, rz, rzs⟩ := f3
    have r1 : res L (VR L) ρ1 H1 (M.bind ((mkCl L.pg (tabs L.pg m)).call i (.ref h1.length :: (ds ++ L.pg.dfl i))) (nonOr (.ref h1.length)) (h1 ++ [.ins c []])) Q (fun c d H' => W c d σ H') := r1
    have hlen : (D.ref h1.length :: (ds ++ L.pg.dfl i)).length = ps.length := by
      have r2 := res.bind (P := VR L) r1
      simp only [mkCl] at r2
      split at r2
      · next fd' e =>
        split at r2
        · next e2 => rw [e2.2, hnp fd' e]
        · exact r2.elim
      · exact r2.elim
    refine run_makeM (X := X) (E := WE W σ) (by rw [C.x0.K]; exact M0) (by rw [C.x0.K, C.x0.mg]; exact F) (C.room hh) C.x0.gd (by rw [C.x0.K]; exact f3) rz (passAt tk σ) I1 rv fun x dx nx nd ne => ?_
    have nx' : (upd H1 dx (.own x)) x = none := by
      rw [upd_ne (Ne.symm ne)]
      exact nx
    have Ra := (R1.side (u := .own x) nd).alloc (p := x) (o := .ins c []) (u := .ins (L.clI c) dx []) nx' (.ins .nil)
    have E0 : Ext ρ1 H1 (ρ1 ++ [x]) (upd (upd H1 dx (.own x)) x (.ins (L.clI c) dx [])) := (ext_new nd).trans (ext_alloc nx')
    have hx0 : (ρ1 ++ [x])[h1.length]? = some x := by
      rw [← R1.len]
      simp
    have rall : VRels L.K (ρ1 ++ [x]) (upd (upd H1 dx (.own x)) x (.ins (L.clI c) dx [])) (.ref h1.length :: (ds ++ L.pg.dfl i)) (.ref x :: (vs ++ zs)) := .cons (.ref hx0) ((rds.mono E0).append (rzs _ _))
    refine ⟨by rw [← rall.length]; exact hlen, ρ1 ++ [x], h1 ++ [.ins c []], .ref h1.length :: (ds ++ L.pg.dfl i), Ra, rall, ?_⟩
    refine (res.bind (P := VR L) (res.later E0 r1)).mono fun v H2 => ?_
    rintro ⟨ρ2, h2, d, e2, R2, rd, r3⟩
    cases rd with
    | non => exact ⟨rfl, r3.ret R2 (.ref (e2.get hx0))⟩
    | _ => exact r3.elim
end
end MX
set_option maxHeartbeats 4000000
namespace MX
open PySem PySem.Spec PyProof.Rows L2
/-! ### targets -/
/-- two states alike off some slots -/
def OffEq (vs : List Nat) (σ σ' : L2.St) : Prop := σ'.length = σ.length ∧ ∀ j, j ∉ vs → σ'[j]? = σ[j]?
theorem OffEq.refl (vs : List Nat) (σ : L2.St) : OffEq vs σ σ := ⟨rfl, fun _ _ => rfl⟩
theorem OffEq.trans {vs us : List Nat} {σ σ1 σ2 : L2.St} (a : OffEq vs σ σ1) (b : OffEq us σ1 σ2) : OffEq (vs ++ us) σ σ2 :=
  ⟨b.1.trans a.1, fun j h => (b.2 j fun z => h (List.mem_append_right _ z)).trans (a.2 j fun z => h (List.mem_append_left _ z))⟩
theorem wipe_off {vs : List Nat} {σ σ' : L2.St} : OffEq vs σ (L2.wipe σ vs) := by
  refine ⟨L2.wipe_length σ vs, fun j h => ?_⟩
  induction vs with
  | nil => rfl
  | cons v vs ih =>
    show ((L2.wipe σ vs).set v none)[j]? = σ[j]?
    rw [List.getElem?_set_ne (fun e => h (by rw [e]; exact List.mem_cons_self))]
    exact ih fun z => h (List.mem_cons_of_mem _ z)
theorem wipe_at {vs : List Nat} {σ : L2.St} {j : Nat} (h : j ∈ vs) (hj : j < σ.length) : (L2.wipe σ vs)[j]? = some none := by
  induction vs with
  | nil => cases h
  | cons v vs ih =>
    show ((L2.wipe σ vs).set v none)[j]? = some none
    by_cases e : v = j
    · subst e
      rw [List.getElem?_set_self (by rw [L2.wipe_length]; exact hj)]
    · rw [List.getElem?_set_ne e]
      rcases List.mem_cons.mp h with z | z
      · exact absurd z.symm e
      · exact ih z
theorem wipe_eq {vs us : List Nat} {σ σ2 : L2.St} (s : ∀ j ∈ us, j ∈ vs) (o : OffEq us (L2.wipe σ vs) σ2) : L2.wipe σ2 vs = L2.wipe σ vs := by
  apply List.ext_getElem?
  intro j
  have l2 : σ2.length = σ.length := o.1.trans (L2.wipe_length σ vs)
  by_cases h : j ∈ vs
  · by_cases hj : j < σ.length
    · rw [wipe_at h (by rw [l2]; exact hj), wipe_at h hj]
    · rw [List.getElem?_eq_none (by rw [L2.wipe_length]; omega), List.getElem?_eq_none (by rw [L2.wipe_length]; omega)]
  · rw [(wipe_off (σ' := σ)).2 j h, o.2 j fun z => h (s j z), (wipe_off (σ' := σ)).2 j h]

/-- the reading of a target's store -/
def tG (L : Lk) (p : Pn) (f : D → Env → Option Env) (vs : List Nat) : TG := fun v σ H Q =>
  Pins p σ ∧ ∃ ρ env d env', ERel L.K ρ H env σ ∧ VRel L.K ρ H d v ∧ f d env = some env' ∧ ∀ σ', ERel L.K ρ H env' σ' → Pins p σ' → OffEq vs σ σ' → Q σ' H
def tGs (L : Lk) (p : Pn) (f : List D → Env → Option Env) (vs : List Nat) : TGs := fun xs σ H Q =>
  Pins p σ ∧ ∃ ρ env ds env', ERel L.K ρ H env σ ∧ VRels L.K ρ H ds xs ∧ f ds env = some env' ∧ ∀ σ', ERel L.K ρ H env' σ' → Pins p σ' → OffEq vs σ σ' → Q σ' H
theorem PG.imp {X : Cx} {e : Expr} {t t' : TG} (h : PG X e t) (k : ∀ v σ H Q, t' v σ H Q → t v σ H Q) : PG X e t' := ⟨fun pins s σ H v u Q I r q => h.run pins s σ H v u Q I r (k v σ H Q q)⟩
theorem PGs.imp {X : Cx} {e : List Expr} {t t' : TGs} (h : PGs X e t) (k : ∀ v σ H Q, t' v σ H Q → t v σ H Q) : PGs X e t' := ⟨fun pins s σ H v u Q I r q => h.run pins s σ H v u Q I r (k v σ H Q q)⟩
section
variable {L : Lk} {Γ : Cn} {n : Nat} {ev : Ev} {p : Pn} {X : Cx}
theorem store_of (C : CxOk L Γ n ev p X) {x : Str} {i : Nat} (h : storeOf Γ x = some i) : X.N[i]? = some x ∧ Loc X.env.scope x ∧ (X.fn x = true ∨ X.env.scope.names.lookup x = some .local) ∧ i ∉ p.pv.map (·.1) ∧ locB Γ x = true := by
  unfold storeOf at h
  split at h
  · next j hb e =>
    split at h
    · cases h
    · next hp =>
      cases h
      simp only [Bool.and_eq_true] at hb
      have hN : X.N[i]? = some x := by
        rw [C.N]
        exact posOf_get e
      have hl := hb.1
      unfold locB at hl
      refine ⟨hN, ?_, ?_, by rw [C.pin]; exact hp, hb.1⟩
      · show X.env.scope.names.lookup x = some .local ∨ X.env.scope.names.lookup x = some .cell
        rw [C.sc]
        split at hl
        · next e => exact .inl e
        · next e => exact .inr e
        · cases hl
      · rw [C.sc]
        split at hl
        · next e => exact .inr e
        · next e => exact .inl (C.fn x hl)
        · cases hl
  · cases h
def lenT : Tgs → Nat
  | .nil => 0
  | .cons _ ts => lenT ts + 1
theorem asg_len : ∀ {ts : Tgs} {xs : List D} {env env' : Env}, asgTs ts xs env = some env' → xs.length = lenT ts
  | .nil, [], _, _, _ => rfl
  | .nil, _ :: _, _, _, h => by simp only [asgTs] at h; cases h
  | .cons _ _, [], _, _, h => by simp only [asgTs] at h; cases h
  | .cons t ts, d :: r, env, env', h => by
    simp only [asgTs] at h
    split at h
    · next e1 h1 => rw [List.length_cons, asg_len h]; rfl
    · cases h
theorem cTg_plain {k : Nat} {e : Expr} {t : Tg} (h : cTg Γ k e = some t) (es : List Expr) (env : PySem.Env) : assignEach (e :: es) env = (false, assign e env) :: assignEach es env := by
  cases k with
  | zero =>
    simp only [cTg] at h
    cases h
  | succ k => cases e <;> first | rfl | (simp only [cTg] at h; cases h)
theorem pg_tgts (C : CxOk L Γ n ev p X) : ∀ k : Nat, (∀ {e : Expr} {t : Tg}, cTg Γ k e = some t → PG X e (tG L p (asgT t) (slotsT t))) ∧
    ∀ {es : List Expr} {ts : Tgs}, cTgs Γ k es = some ts → PGs X es (tGs L p (asgTs ts) (slotsTs ts)) ∧ (assignEach es X.env).length = lenT ts ∧ (assignEach es X.env).findIdx? (·.1) = none := by
  intro k
  induction k with
  | zero =>
    refine ⟨fun {e t} h => ?_, fun {es ts} h => ?_⟩
    · simp only [cTg] at h
      cases h
    · simp only [cTgs] at h
      cases h
  | succ k ih =>
    refine ⟨fun {e t} h => ?_, fun {es ts} h => ?_⟩
    · cases e with
      | Name x pos =>
        simp only [cTg] at h
        cases e : storeOf Γ x with
        | none =>
          rw [e] at h
          cases h
        | some i =>
          rw [e] at h
          cases h
          obtain ⟨h1, h2, h3, h4, _⟩ := store_of C e
          refine PG.imp (pg_name (by rw [C.N]; exact C.nd) h1 h2 h3) fun v σ H Q ⟨pn, ρ, env, d, env', er, rd, ea, q⟩ => ?_
          cases ea
          exact q _ (er.set rd i) (pn.set h4) ⟨by simp, fun j hj => by rw [List.getElem?_set_ne]; intro z; exact hj (by rw [← z]; exact List.mem_singleton.mpr rfl)⟩
      | Tuple es j pos =>
        simp only [cTg] at h
        split at h
        · cases h
        · next hot =>
          cases e : cTgs Γ k es with
          | none =>
            rw [e] at h
            cases h
          | some ts =>
            rw [e] at h
            cases h
            obtain ⟨pg, hs1, hs2⟩ := ih.2 e
            refine PG.imp (pg_tup (C.calm (by simpa using hot)) pg hs1 hs2) fun v σ H Q ⟨pn, ρ, env, d, env', er, rd, ea, q⟩ => ?_
            cases rd with
            | tup ht hv =>
              simp only [asgT] at ea
              refine ⟨_, _, rfl, by rw [C.x0.K]; exact ht.sq, ?_, pn, ρ, env, _, env', er, hv, ea, q⟩
              rw [← hv.length]
              exact asg_len ea
            | _ => cases ea
      | _ =>
        simp only [cTg] at h
        cases h
    · cases es with
      | nil =>
        simp only [cTgs] at h
        cases h
        refine ⟨PGs.imp pgs_nil fun v σ H Q ⟨pn, ρ, env, ds, env', er, rd, ea, q⟩ => ?_, rfl, rfl⟩
        cases rd with
        | nil =>
          simp only [asgTs] at ea
          cases ea
          exact ⟨rfl, q σ er pn (OffEq.refl _ _)⟩
        | cons a b => cases ea
      | cons e es =>
        simp only [cTgs] at h
        cases e1 : cTg Γ k e with
        | none =>
          rw [e1] at h
          cases h
        | some t1 =>
          cases e2 : cTgs Γ k es with
          | none =>
            rw [e1, e2] at h
            cases h
          | some ts1 =>
            rw [e1, e2] at h
            cases h
            obtain ⟨pg, hs1, hs2⟩ := ih.2 e2
            have hp := cTg_plain e1 es X.env
            refine ⟨PGs.imp (pgs_cons (ih.1 e1) pg (by rw [hp]; rfl)) fun v σ H Q ⟨pn, ρ, env, ds, env', er, rd, ea, q⟩ => ?_, ?_, ?_⟩
            · cases rd with
              | nil =>
                simp only [asgTs] at ea
                cases ea
              | cons a b =>
                simp only [asgTs] at ea
                split at ea
                · next env1 ea1 => exact ⟨_, _, rfl, pn, ρ, env, _, env1, er, a, ea1, fun σ1 er1 pn1 o1 => ⟨pn1, ρ, env1, _, env', er1, b, ea, fun σ2 er2 pn2 o2 => q σ2 er2 pn2 (o1.trans o2)⟩⟩
                · cases ea
            · rw [hp]
              show (assignEach es X.env).length + 1 = lenT ts1 + 1
              rw [hs1]
            · rw [hp, List.findIdx?_cons]
              simp only [Bool.false_eq_true, if_false]
              rw [hs2]
              rfl
end
end MX
set_option maxHeartbeats 4000000
namespace MX
open PySem PySem.Spec PyProof.Rows L2
/-! ### what is walked -/
def kindD : D → Bool
  | .tup _ => true
  | _ => false
theorem sqv_at {L : Lk} {ρ : List Addr} {h : Hh} {H : Hp} (R : Rep L ρ h H) {d : D} {a : Addr} {xs : List D} (r : VRel L.K ρ H d (.ref a)) (e : seqOf h d = some xs) : ∃ vs, HZ.SqV L.K H (kindD d) a vs ∧ VRels L.K ρ H xs vs := by
  cases r with
  | tup t q =>
    cases e
    exact ⟨_, t.sq, q⟩
  | scr t =>
    cases e
    exact ⟨_, t.sq, VRels.ints⟩
  | exn0 => cases e
  | exn1 => cases e
  | ref t =>
    simp only [seqOf] at e
    split at e
    · next ys e2 =>
      cases e
      obtain ⟨vs, e3, r3⟩ := lst_at R t e2
      exact ⟨vs, .inl (.inl e3), r3⟩
    · cases e
theorem seq_ref {K : PySem.W.Frag} {ρ : List Addr} {h : Hh} {H : Hp} {d : D} {v : V} {xs : List D} (r : VRel K ρ H d v) (e : seqOf h d = some xs) : ∃ a, v = .ref a := by
  cases r <;> first | exact ⟨_, rfl⟩ | cases e
def WkRel (K : PySem.W.Frag) (ρ : List Addr) (H : Hp) (wk : Wk) (J : L2.It) (i : Nat) : Prop := match wk with
  | .tup xs => ∃ a vs, J = Itt K a ∧ TupAt K H a vs ∧ i ≤ vs.length ∧ VRels K ρ H xs (vs.drop i)
  | .lst r j _ => ∃ a, J = Itl K a ∧ ρ[r]? = some a ∧ j = i
  | .str cs => ∃ x : Str, J = Its x ∧ cs = x.cps.toList.drop i ∧ i ≤ x.cps.size
  | .rng lo n => ∃ lo0 n0, J = Itr lo0 n0 ∧ lo = lo0 + (i : Int) ∧ i ≤ n0 ∧ n = n0 - i
  | .zip st a b j _ => ∃ aa ab, J = HZ.Itw K (kindD a) (kindD b) st aa ab ∧ VRel K ρ H a (.ref aa) ∧ VRel K ρ H b (.ref ab) ∧ j = i
  | .enm a j _ => ∃ aa, J = HZ.Itn K (kindD a) aa ∧ VRel K ρ H a (.ref aa) ∧ j = i
  | .key r j _ => ∃ (a : Addr) (ob : Obj) (kvs : List (Key × V)), J = Itk a ob kvs ∧ ρ[r]? = some a ∧ H a = some (.frz ob (.dK kvs)) ∧ j = i
theorem WkRel.mono {K : PySem.W.Frag} {ρ ρ' : List Addr} {H H' : Hp} {wk : Wk} {J : L2.It} {i : Nat} (e : Ext ρ H ρ' H') (h : WkRel K ρ H wk J i) : WkRel K ρ' H' wk J i := by
  cases wk with
  | tup xs =>
    obtain ⟨a, vs, h1, h2, h3, h4⟩ := h
    exact ⟨a, vs, h1, h2.mono e, h3, h4.mono e⟩
  | lst r j k =>
    obtain ⟨a, h1, h2, h3⟩ := h
    exact ⟨a, h1, e.get h2, h3⟩
  | str cs => exact h
  | rng lo n => exact h
  | zip st a b j m =>
    obtain ⟨aa, ab, h1, h2, h3, h4⟩ := h
    exact ⟨aa, ab, h1, h2.mono e, h3.mono e, h4⟩
  | enm a j m =>
    obtain ⟨aa, h1, h2, h3⟩ := h
    exact ⟨aa, h1, h2.mono e, h3⟩
  | key r j m =>
    obtain ⟨a, ob, kvs, h1, h2, h3, h4⟩ := h
    exact ⟨a, ob, kvs, h1, e.get h2, e.sta _ _ trivial h3, h4⟩
section
variable {L : Lk} {ρ : List Addr} {h : Hh} {H : Hp} {wk : Wk} {J : L2.It} {i : Nat}
theorem wk_stop (R : Rep L ρ h H) (w : WkRel L.K ρ H wk J i) (e : wk.next h = some none) : J.stop i H := by
  cases wk with
  | tup xs =>
    obtain ⟨a, vs, rfl, h2, h3, h4⟩ := w
    cases xs with
    | nil =>
      refine ⟨vs, h2.sq, ?_⟩
      have := h4.length
      simp at this
      omega
    | cons d r => cases e
  | lst r j k =>
    obtain ⟨a, rfl, h2, rfl⟩ := w
    simp only [Wk.next] at e
    split at e
    · next ys e1 =>
      simp only [seqOf] at e1
      split at e1
      · next xs e2 =>
        cases e1
        split at e
        · next hl =>
          split at e
          · obtain ⟨vs, e3, r3⟩ := lst_at R h2 e2
            exact ⟨vs, .inl (.inl e3), by rw [← r3.length, hl]; exact Nat.le_refl _⟩
          · cases e
          · cases e
        · cases e
      · cases e1
    · cases e
  | str cs =>
    obtain ⟨x, rfl, h2, h3⟩ := w
    cases cs with
    | nil =>
      show x.cps.size ≤ i
      have := congrArg List.length h2
      simp at this
      omega
    | cons d r => cases e
  | rng lo n =>
    obtain ⟨lo0, n0, rfl, h1, h2, h3⟩ := w
    cases n with
    | zero =>
      show n0 ≤ i
      omega
    | succ m => cases e
  | zip st a b j m =>
    obtain ⟨aa, ab, rfl, h2, h3, rfl⟩ := w
    simp only [Wk.next] at e
    split at e
    · next xs ys e1 e2 =>
      split at e
      · next hc =>
        split at e
        · obtain ⟨vs, s1, r1⟩ := sqv_at R h2 e1
          obtain ⟨us, s2, r2⟩ := sqv_at R h3 e2
          have l1 := r1.length
          have l2 := r2.length
          refine ⟨vs, us, s1, s2, by omega, fun z => ?_⟩
          have := hc.2 z
          omega
        · cases e
        · cases e
      · cases e
    · cases e
  | enm a j m =>
    obtain ⟨aa, rfl, h3, rfl⟩ := w
    simp only [Wk.next] at e
    split at e
    · next xs e1 =>
      split at e
      · next hl =>
        split at e
        · obtain ⟨vs, s1, r1⟩ := sqv_at R h3 e1
          exact ⟨vs, s1, by rw [← r1.length, hl]; exact Nat.le_refl _⟩
        · cases e
        · cases e
      · cases e
    · cases e
  | key r j m =>
    obtain ⟨a, ob, kvs, rfl, h2, h3, rfl⟩ := w
    simp only [Wk.next] at e
    split at e
    · next xs e1 =>
      obtain ⟨ob', vs, s1, r1⟩ := dct_at R h2 e1
      rw [h3] at s1
      cases s1
      split at e
      · next hl =>
        split at e
        · exact ⟨h3, by rw [← r1.length, hl]; exact Nat.le_refl _⟩
        · cases e
        · cases e
      · cases e
    · cases e
theorem wk_go (R : Rep L ρ h H) (w : WkRel L.K ρ H wk J i) {d : D} {wk' : Wk} (e : wk.next h = some (some (d, wk'))) : J.go i H ∧ ∀ x H', J.yld i H x H' → Rep L ρ h H' ∧ Ext ρ H ρ H' ∧ VRel L.K ρ H' d x ∧ WkRel L.K ρ H' wk' J (i + 1) := by
  cases wk with
  | tup xs =>
    obtain ⟨a, vs, rfl, h2, h3, h4⟩ := w
    cases xs with
    | nil => cases e
    | cons d' r =>
      cases e
      cases hd : vs.drop i with
      | nil =>
        rw [hd] at h4
        cases h4
      | cons v us =>
        rw [hd] at h4
        cases h4 with
        | cons q1 q2 =>
          have g : vs[i]? = some v := by
            have := congrArg List.head? hd
            rw [List.head?_drop] at this
            exact this
          have hl : i < vs.length := (List.getElem?_eq_some_iff.mp g).1
          refine ⟨⟨vs, v, h2.sq, g⟩, fun x H' y => ?_⟩
          obtain ⟨rfl, y⟩ := y
          have z := y vs h2.sq
          rw [g] at z
          cases z
          refine ⟨R, Ext.refl _ _, q1, a, vs, rfl, h2, hl, ?_⟩
          have : vs.drop (i + 1) = us := by
            rw [← List.drop_drop, hd]
            rfl
          rw [this]
          exact q2
  | lst r j k =>
    obtain ⟨a, rfl, h2, rfl⟩ := w
    simp only [Wk.next] at e
    split at e
    · next ys e1 =>
      simp only [seqOf] at e1
      split at e1
      · next xs e2 =>
        cases e1
        split at e
        · next hl =>
          split at e
          · cases e
          · next k' d' hd =>
            cases e
            obtain ⟨vs, e3, r3⟩ := lst_at R h2 e2
            obtain ⟨v, g, q⟩ := r3.get hd
            have sq : SqL L.K H a vs := .inl (.inl e3)
            refine ⟨⟨vs, v, sq, g⟩, fun x H' y => ?_⟩
            obtain ⟨rfl, y⟩ := y
            have z := y vs sq
            rw [g] at z
            cases z
            exact ⟨R, Ext.refl _ _, q, a, rfl, h2, rfl⟩
          · cases e
        · cases e
      · cases e1
    · cases e
  | str cs =>
    obtain ⟨x, rfl, h2, h3⟩ := w
    cases cs with
    | nil => cases e
    | cons c r =>
      cases e
      have g : x.cps[i]? = some c := by
        have := congrArg List.head? h2.symm
        rw [List.head?_drop] at this
        simpa using this
      have hl : i < x.cps.size := (Array.getElem?_eq_some_iff.mp g).1
      refine ⟨hl, fun y H' q => ?_⟩
      obtain ⟨rfl, c', q1, rfl⟩ := q
      rw [g] at q1
      cases q1
      refine ⟨R, Ext.refl _ _, .str _, x, rfl, ?_, hl⟩
      rw [← List.drop_drop, ← h2]
      rfl
  | rng lo n =>
    obtain ⟨lo0, n0, rfl, h1, h2, h3⟩ := w
    cases n with
    | zero => cases e
    | succ m =>
      cases e
      have hl : i < n0 := by omega
      refine ⟨hl, fun y H' q => ?_⟩
      obtain ⟨rfl, rfl⟩ := q
      subst h1
      exact ⟨R, Ext.refl _ _, .int _, lo0, n0, rfl, by omega, hl, by omega⟩
  | zip st a b j m =>
    obtain ⟨aa, ab, rfl, h2, h3, rfl⟩ := w
    simp only [Wk.next] at e
    split at e
    · next xs ys e1 e2 =>
      split at e
      · next hc =>
        split at e
        · cases e
        · next m' x y hx hy =>
          cases e
          obtain ⟨vs, s1, r1⟩ := sqv_at R h2 e1
          obtain ⟨us, s2, r2⟩ := sqv_at R h3 e2
          obtain ⟨v, g1, q1⟩ := r1.get hx
          obtain ⟨u, g2, q2⟩ := r2.get hy
          refine ⟨⟨vs, us, v, u, s1, s2, g1, g2⟩, fun z H' yl => ?_⟩
          obtain ⟨T, v', u', rfl, hT, rfl, y1, y2⟩ := yl
          have z1 := y1 vs s1
          have z2 := y2 us s2
          rw [g1] at z1
          rw [g2] at z2
          cases z1
          cases z2
          have E : Ext ρ H ρ (upd H T (.tup [v, u])) := ext_new hT
          exact ⟨R.side hT, E, .tup (.inl upd_same) (.cons (q1.mono E) (.cons (q2.mono E) .nil)), aa, ab, rfl, h2.mono E, h3.mono E, rfl⟩
        · cases e
      · cases e
    · cases e
  | enm a j m =>
    obtain ⟨aa, rfl, h3, rfl⟩ := w
    simp only [Wk.next] at e
    split at e
    · next xs e1 =>
      split at e
      · next hl =>
        split at e
        · cases e
        · next m' x hx =>
          cases e
          obtain ⟨vs, s1, r1⟩ := sqv_at R h3 e1
          obtain ⟨v, g1, q1⟩ := r1.get hx
          refine ⟨⟨vs, v, s1, g1⟩, fun z H' yl => ?_⟩
          obtain ⟨T, v', rfl, hT, rfl, y1⟩ := yl
          have z1 := y1 vs s1
          rw [g1] at z1
          cases z1
          have E : Ext ρ H ρ (upd H T (.tup [.int (j : Nat), v])) := ext_new hT
          exact ⟨R.side hT, E, .tup (.inl upd_same) (.cons (.int _) (.cons (q1.mono E) .nil)), aa, rfl, h3.mono E, rfl⟩
        · cases e
      · cases e
    · cases e
  | key r j m =>
    obtain ⟨a, ob, kvs, rfl, h2, h3, rfl⟩ := w
    simp only [Wk.next] at e
    split at e
    · next xs e1 =>
      obtain ⟨ob', vs, s1, r1⟩ := dct_at R h2 e1
      rw [h3] at s1
      cases s1
      split at e
      · next hl =>
        split at e
        · cases e
        · next m' x hx =>
          cases e
          have hj : j < kvs.length := by
            rw [← r1.length]
            omega
          refine ⟨⟨h3, hj⟩, fun z H' yl => ?_⟩
          obtain ⟨rfl, k, v, g, rfl⟩ := yl
          obtain ⟨w, g2, q⟩ := (VRels.keys r1).get (i := j) (d := x.1) (by rw [List.getElem?_map, hx]; rfl)
          rw [List.getElem?_map, g] at g2
          cases g2
          exact ⟨R, Ext.refl _ _, q, a, ob, kvs, rfl, h2, h3, rfl⟩
        · cases e
      · cases e
    · cases e
end
abbrev WR (L : Lk) : List Addr → Hp → Wk → L2.It → Prop := fun ρ H wk J => WkRel L.K ρ H wk J 0
theorem PI.imp {X : Cx} {tg e : Expr} {t t' : TI} (h : PI X tg e t) (k : ∀ σ H R, t' σ H R → t σ H R) : PI X tg e t' := ⟨fun pins s σ H R I q => h.run pins s σ H R I (k σ H R q)⟩
section
variable {L : Lk} {Γ : Cn} {n : Nat} {ev : Ev} {p : Pn} {X : Cx}
theorem pi_seqM (C : CxOk L Γ n ev p X) {tg e : Expr} {ce : CE} {W : WX} (he : PE X e (tM L p (VR L) (evE ev ce) W)) : PI X tg e (tM L p (WR L) (evI ev (.seq ce)) W) := by
  refine ⟨fun pins s σ H Q I q => ?_⟩
  obtain ⟨pn, ρ, env, h0, R, er, pa, r⟩ := q
  simp only [evI] at r
  have q0 := res.bind (P := VR L) r
  cases ee : evE ev ce env h0 with
  | bad =>
    rw [ee] at q0
    exact q0.elim
  | exc x h1 =>
    rw [ee] at q0
    refine (pi_list (tg := tg) he).run pins s σ H Q I ⟨pn, ρ, env, h0, R, er, pa, ?_⟩
    rw [ee]
    exact q0
  | ok d h1 =>
    have r1 := r
    simp only [M.bind, ee] at r1
    cases d with
    | tup xs =>
      refine (pi_tup (tg := tg) he).run pins s σ H Q I ⟨pn, ρ, env, h0, R, er, pa, ?_⟩
      rw [ee]
      intro ρ' H' b x R' rd
      cases rd with
      | tup ht hv =>
        refine ⟨_, rfl, ⟨_, by rw [C.x0.K]; exact ht.sq⟩, r1 ρ' H' _ x R' ?_⟩
        exact ⟨_, _, by rw [C.x0.K], ht, Nat.zero_le _, hv⟩
    | str y =>
      refine (pi_str (tg := tg) he).run pins s σ H Q I ⟨pn, ρ, env, h0, R, er, pa, ?_⟩
      rw [ee]
      intro ρ' H' b x R' rd
      cases rd
      simp only [wkOf] at r1
      split at r1
      · exact ⟨y, rfl, r1 ρ' H' _ x R' ⟨y, rfl, rfl, Nat.zero_le _⟩⟩
      · exact r1.elim
    | ref k =>
      cases e2 : h1[k]? with
      | none =>
        simp only [wkOf, e2] at r1
        exact r1.elim
      | some o =>
        cases o with
        | lst xs =>
          simp only [wkOf, e2] at r1
          refine (pi_list (tg := tg) he).run pins s σ H Q I ⟨pn, ρ, env, h0, R, er, pa, ?_⟩
          rw [ee]
          intro ρ' H' b x R' rd
          cases rd with
          | ref hr =>
            obtain ⟨vs, e3, r3⟩ := lst_at R' hr e2
            exact ⟨_, rfl, ⟨vs, .inl (.inl e3)⟩, r1 ρ' H' _ x R' ⟨_, by rw [C.x0.K], hr, rfl⟩⟩
        | dct kvs =>
          simp only [wkOf, e2] at r1
          refine (pi_keys (tg := tg) he).run pins s σ H Q I ⟨pn, ρ, env, h0, R, er, pa, ?_⟩
          rw [ee]
          intro ρ' H' b x R' rd
          cases rd with
          | ref hr =>
            obtain ⟨ob, vs, e3, r3⟩ := dct_at R' hr e2
            exact ⟨_, ob, rfl, .inl ⟨vs, e3, r1 ρ' H' _ x R' ⟨_, ob, vs, rfl, hr, e3, rfl⟩⟩⟩
        | _ =>
          simp only [wkOf, e2] at r1
          exact r1.elim
    | _ => exact r1.elim
theorem pi_rngM (C : CxOk L Γ n ev p X) {tg e : Expr} {ce : CE} {k : Nat} {x : Str} {W : WX} {p1 pos : Pos} (hx : x = "range") (hg : globB Γ.sc x = true) (hb : x ∈ Γ.g.bl) (hc : cE k Γ e = some ce) (he : PE X e (tM L p (VR L) (evE ev ce) W)) :
    PI X tg (.Call (.Name x p1) [e] [] pos) (tM L p (WR L) (evI ev (.rng ce)) W) := by
  subst hx
  obtain ⟨g1, g2, _, g3⟩ := gl_of C hg
  refine PI.imp (pi_range1 g1 (by rw [C.x0.mg]; exact C.gb.bl _ hb) (pa_cons he pa_nil (star_of hc _ _)) (star_of hc _ _)) fun σ H Q q => ?_
  obtain ⟨pn, ρ, env, h0, R, er, pa, r⟩ := tM_bind (P := VR L) (f := fun _ d => wkRng d) q
  refine ⟨pn, ρ, env, h0, R, er, pa, r.mono fun y H1 => ?_⟩
  rintro ⟨ρ1, env1, h1, d, R1, er1, pa1, rd, r1⟩
  show ∃ j : Int, [y] = [V.int j] ∧ _
  cases rd with
  | int j =>
    simp only [wkRng] at r1
    split at r1
    · next hz => exact ⟨j, rfl, hz.1, hz.2, r1.ret R1 ⟨0, j.toNat, rfl, by simp, Nat.zero_le _, by simp⟩⟩
    · exact r1.elim
  | _ => exact r1.elim
theorem pi_zipM (C : CxOk L Γ n ev p X) {tg a b : Expr} {ca cb : CE} {k : Nat} {x : Str} {st : Bool} {kws : List Keyword} {W : WX} {p1 pos : Pos} (hx : x = "zip") (ht : isTupE tg = true) (hk : strictK kws = some st) (hg : globB Γ.sc x = true) (hb : x ∈ Γ.g.bl)
    (h1 : cE k Γ a = some ca) (h2 : cE k Γ b = some cb) (ha : PE X a (tM L p (VR L) (evE ev ca) W)) (hb' : PE X b (tM L p (VR L) (evE ev cb) W)) : PI X tg (.Call (.Name x p1) [a, b] kws pos) (tM L p (WR L) (evI ev (.zip st ca cb)) W) := by
  subst hx
  obtain ⟨g1, g2, _, g3⟩ := gl_of C hg
  have hm : X.mg "zip" = none := by rw [C.x0.mg]; exact C.gb.bl _ hb
  have pa := pa_cons ha (pa_cons hb' pa_nil (star_of h2 _ _)) (star_of h1 _ _)
  have read : ∀ σ H R, tM L p (WR L) (evI ev (.zip st ca cb)) W σ H R → HZ.iZw X.K st (tCons (tM L p (VR L) (evE ev ca) W) (tCons (tM L p (VR L) (evE ev cb) W) tNil)) σ H R := fun σ H R q => by
    have pn := q.1
    obtain ⟨_, ρ, env, h0, R0, er, pa, r⟩ := q
    simp only [evI] at r
    refine tM_next (P := VR L) (P' := WR L) (m := evE ev ca) (f := fun env x => M.bind (evE ev cb env) fun y => wkZip st x y) pn R0 er pa r fun ρ1 H1 h1 d1 v1 e1 R1 er1 pa1 rd1 r1 => ?_
    refine tM_next (P := VR L) (P' := WR L) (m := evE ev cb) (f := fun env y => wkZip st d1 y) pn R1 er1 pa1 r1 fun ρ2 H2 h2 d2 v2 e2 R2 er2 pa2 rd2 r2 => ?_
    simp only [wkZip] at r2
    split at r2
    · next xs ys e3 e4 =>
      split at r2
      · next hc =>
        have rd1' := rd1.mono e2
        obtain ⟨a1, rfl⟩ := seq_ref rd1' e3
        obtain ⟨a2, rfl⟩ := seq_ref rd2 e4
        obtain ⟨vs, s1, q1⟩ := sqv_at R2 rd1' e3
        obtain ⟨us, s2, q2⟩ := sqv_at R2 rd2 e4
        rw [← C.x0.K] at s1 s2
        refine ⟨_, _, a1, a2, vs, us, rfl, s1, s2, r2.ret R2 ⟨a1, a2, by rw [C.x0.K], rd1', rd2, rfl⟩⟩
      · exact r2.elim
    · exact r2.elim
  cases tg with
  | Tuple es j tp =>
    unfold strictK at hk
    split at hk
    · cases hk
      exact PI.imp (HZ.pi_zw g1 hm pa (by rw [star_of h1]) (by rw [star_of h2]; rfl)) read
    · next y j' q1 q2 =>
      split at hk
      · next hy =>
        cases hk
        subst hy
        exact PI.imp (HZ.pi_zs g1 hm pa (by rw [star_of h1]; rfl) (by rw [star_of h1, star_of h2]; rfl)) read
      · cases hk
    · cases hk
  | _ => cases ht
theorem pi_enmM (C : CxOk L Γ n ev p X) {tg a : Expr} {ca : CE} {k : Nat} {x : Str} {W : WX} {p1 pos : Pos} (hx : x = "enumerate") (ht : isTupE tg = true) (hg : globB Γ.sc x = true) (hb : x ∈ Γ.g.bl)
    (h1 : cE k Γ a = some ca) (ha : PE X a (tM L p (VR L) (evE ev ca) W)) : PI X tg (.Call (.Name x p1) [a] [] pos) (tM L p (WR L) (evI ev (.enm ca)) W) := by
  subst hx
  obtain ⟨g1, g2, _, g3⟩ := gl_of C hg
  have hm : X.mg "enumerate" = none := by rw [C.x0.mg]; exact C.gb.bl _ hb
  cases tg with
  | Tuple es j tp =>
    refine PI.imp (HZ.pi_n g1 hm (pa_cons ha pa_nil (star_of h1 _ _)) (star_of h1 _ _)) fun σ H R q => ?_
    obtain ⟨pn, ρ, env, h0, R0, er, pa, r⟩ := tM_bind (P := VR L) (P' := WR L) (f := fun _ d => wkEnm d) q
    refine ⟨pn, ρ, env, h0, R0, er, pa, r.mono fun y H1 => ?_⟩
    rintro ⟨ρ1, env1, h1, d, R1, er1, pa1, rd, r1⟩
    simp only [wkEnm] at r1
    split at r1
    · next xs e1 =>
      obtain ⟨a1, rfl⟩ := seq_ref rd e1
      obtain ⟨vs, s1, q1⟩ := sqv_at R1 rd e1
      exact ⟨kindD d, a1, vs, rfl, by rw [C.x0.K]; exact s1, r1.ret R1 ⟨a1, by rw [C.x0.K], rd, rfl⟩⟩
    · exact r1.elim
  | _ => cases ht
/-! ### comprehensions -/
theorem res.noX {α β : Type} {P : List Addr → Hp → α → β → Prop} {m : M α} {h : Hh} {H : Hp} {ρ : List Addr} {Q : β → Hp → Prop} {W W' : Value → Option Addr → Hp → Prop} (r : res L P ρ H (noX m h) Q W) : res L P ρ H (m h) Q W' := by
  unfold MX.noX at r
  cases e : m h with
  | ok a h' =>
    rw [e] at r
    exact r
  | exc x h' =>
    rw [e] at r
    exact r.elim
  | bad =>
    rw [e] at r
    exact r.elim
theorem blk_ok (C : CxOk L Γ n ev p X) (hh : Γ.hot = false) {s : Shared} {H : Hp} {scope : Scope} {cl : List (Str × Addr)} {A : Addr} {fp : List Addr} :
    CxOk L { Γ with sc := relS scope Γ.sc, pin := [], thk := none, xas := none, xal := none, lam := false, fnc := fun x => scope.names.lookup x == some .cell } n ev ⟨[], p.ρ0, p.H0⟩ (X.blk s H scope (compEnvC scope cl A X.env) fp) where
  x0 := ⟨C.x0.K, C.x0.mg, C.x0.un, C.x0.gd⟩
  gb := C.gb
  N := C.N
  nd := C.nd
  sc := by
    show relS scope X.env.scope = relS scope Γ.sc
    rw [C.sc]
  pin := rfl
  room := C.room
  calm := C.calm
  fn := fun x h => h
  pg := C.pg
  lev := C.lev
  fns := C.fns
  thks := C.thks
  thk := fun x h => by cases h
  xas := fun x h => by cases h
  lam := fun h => by cases h
  hts := C.hts
  xal := fun x h => by cases h
def OR (L : Lk) : List Addr → Hp → Option D → Option V → Prop := fun ρ H a b => match a, b with
  | some d, some v => VRel L.K ρ H d v
  | none, none => True
  | _, _ => False
/-- the compiled target stores in the comprehension's own slots -/
theorem own_of {scope : Scope} {k : Nat} : ∀ k : Nat, (∀ {e : Expr} {t : Tg}, cTg { Γ with sc := relS scope Γ.sc, pin := [], thk := none, xas := none, xal := none, lam := false, fnc := fun x => scope.names.lookup x == some .cell } k e = some t → ∀ j ∈ slotsT t, j ∈ (ownOf Γ.N scope).map (·.2)) ∧
    ∀ {es : List Expr} {ts : Tgs}, cTgs { Γ with sc := relS scope Γ.sc, pin := [], thk := none, xas := none, xal := none, lam := false, fnc := fun x => scope.names.lookup x == some .cell } k es = some ts → ∀ j ∈ slotsTs ts, j ∈ (ownOf Γ.N scope).map (·.2) := by
  intro k
  induction k with
  | zero =>
    refine ⟨fun {e t} h => ?_, fun {es ts} h => ?_⟩
    · simp only [cTg] at h
      cases h
    · simp only [cTgs] at h
      cases h
  | succ k ih =>
    refine ⟨fun {e t} h => ?_, fun {es ts} h => ?_⟩
    · cases e with
      | Name x pos =>
        simp only [cTg] at h
        cases e : storeOf { Γ with sc := relS scope Γ.sc, pin := [], thk := none, xas := none, xal := none, lam := false, fnc := fun x => scope.names.lookup x == some .cell } x with
        | none =>
          rw [e] at h
          cases h
        | some i =>
          rw [e] at h
          cases h
          intro j hj
          simp only [slotsT, List.mem_singleton] at hj
          subst hj
          unfold storeOf at e
          split at e
          · next i' hb ep =>
            split at e
            · cases e
            · cases e
              simp only [Bool.and_eq_true] at hb
              have hl := hb.1
              unfold locB at hl
              simp only at hl ep
              have key : scope.names.lookup x = some .local ∨ scope.names.lookup x = some .cell := by
                split at hl
                · next e1 =>
                  obtain ⟨k', e2, r⟩ := lookup_relS (sc := Γ.sc) e1
                  rcases r with rfl | ⟨_, z⟩
                  · exact .inl e2
                  · cases z
                · exact .inr (by simpa using hl)
                · cases hl
              refine List.mem_map.mpr ⟨(x, j), ?_, rfl⟩
              unfold ownOf
              refine List.mem_filterMap.mpr ?_
              rcases key with key | key
              · exact ⟨(x, .local), PySem.mem_of_lookup key, by simp [ep]⟩
              · exact ⟨(x, .cell), PySem.mem_of_lookup key, by simp [ep]⟩
          · cases e
      | Tuple es j pos =>
        simp only [cTg] at h
        split at h
        · cases h
        · cases e : cTgs { Γ with sc := relS scope Γ.sc, pin := [], thk := none, xas := none, xal := none, lam := false, fnc := fun x => scope.names.lookup x == some .cell } k es with
          | none =>
            rw [e] at h
            cases h
          | some ts =>
            rw [e] at h
            cases h
            exact ih.2 e
      | _ =>
        simp only [cTg] at h
        cases h
    · cases es with
      | nil =>
        simp only [cTgs] at h
        cases h
        intro j hj
        cases hj
      | cons e es =>
        simp only [cTgs] at h
        cases e1 : cTg { Γ with sc := relS scope Γ.sc, pin := [], thk := none, xas := none, xal := none, lam := false, fnc := fun x => scope.names.lookup x == some .cell } k e with
        | none =>
          rw [e1] at h
          cases h
        | some t1 =>
          cases e2 : cTgs { Γ with sc := relS scope Γ.sc, pin := [], thk := none, xas := none, xal := none, lam := false, fnc := fun x => scope.names.lookup x == some .cell } k es with
          | none =>
            rw [e1, e2] at h
            cases h
          | some ts1 =>
            rw [e1, e2] at h
            cases h
            intro j hj
            simp only [slotsTs, List.mem_append] at hj
            rcases hj with hj | hj
            · exact ih.1 e1 j hj
            · exact ih.2 e2 j hj
end
end MX
set_option maxHeartbeats 4000000
namespace MX
open PySem PySem.Spec PyProof.Rows L2
section
variable {L : Lk} {Γ : Cn} {n : Nat} {ev : Ev} {p : Pn} {X : Cx}
/-- a clause's test -/
def condM (ev : Ev) (cond : CEs) (env : Env) : M Bool := match cond with
  | .nil => M.pure true
  | .cons c _ => M.bind (evE ev c env) tru
  | .star _ _ => M.bad
def turnM (ev : Ev) (elt : CE) (own : List Nat) (tg : Tg) (cond : CEs) (env : Env) (v : D) : M (Option D) := noX (match asgT tg v (wipeE env own) with
  | some env' => M.bind (condM ev cond env') fun k => match k with
    | true => M.bind (evE ev elt env') fun y => M.pure (some y)
    | false => M.pure none
  | none => M.bad)
theorem comp_eq (elt : CE) (own : List Nat) (tg : Tg) (it : It) (cond : CEs) (env : Env) : evE ev (.comp elt own tg it cond) env = M.bind (evI ev it env) fun wk => M.bind (alloc (.lst [])) fun d => match d with
    | .ref r => M.bind (loopC (turnM ev elt own tg cond env) r wk.len wk) fun _ => M.pure (.ref r)
    | _ => M.bad := by
  simp only [evE]
  rfl
theorem bind_bind {α β γ : Type} (m : M α) (f : α → M β) (g : β → M γ) : M.bind (M.bind m f) g = M.bind m (fun a => M.bind (f a) g) := by
  funext h
  unfold M.bind
  cases m h <;> rfl
theorem loopC_go {turn : D → M (Option D)} {r m : Nat} {wk wk' : Wk} {h : Hh} {d : D} {γ : Type} {k : Unit → M γ} (e : wk.next h = some (some (d, wk'))) : M.bind (loopC turn r (m + 1) wk) k h = M.bind (turn d) (fun o => M.bind (match o with
    | some y => M.bind (app r y) fun _ => loopC turn r m wk'
    | none => loopC turn r m wk') k) h := by
  rw [← bind_bind]
  have : loopC turn r (m + 1) wk h = M.bind (turn d) (fun o => match o with
    | some y => M.bind (app r y) fun _ => loopC turn r m wk'
    | none => loopC turn r m wk') h := by
    rw [loopC]
    simp only [e] <;> rfl
  unfold M.bind at this ⊢
  rw [this]
/-- what holds at a turn -/
def LoopW (L : Lk) (p : Pn) (σ : L2.St) (env : Env) (turn : D → M (Option D)) (J : L2.It) (A : Addr) (Q : VK) (W : Value → Option Addr → Hp → Prop) (i m : Nat) (H : Hp) : Prop :=
  ∃ ρ h wk r, Rep L ρ h H ∧ ERel L.K ρ H env σ ∧ Past p ρ H ∧ WkRel L.K ρ H wk J i ∧ ρ[r]? = some A ∧ res L (VR L) ρ H (M.bind (loopC turn r m wk) (fun _ => M.pure (.ref r)) h) Q W
theorem comp_read (C : CxOk L Γ n ev p X) {scope : Scope} {tg : Expr} {ce : CE} {tg' : Tg} {it : It} {cond : CEs} {k : Nat} {W : WX} {σ : L2.St} {H : Hp} {Q : VK}
    (hg : cTg { Γ with sc := relS scope Γ.sc, pin := [], thk := none, xas := none, xal := none, lam := false, fnc := fun x => scope.names.lookup x == some .cell } k tg = some tg')
    (q : tM L p (VR L) (evE ev (.comp ce ((ownOf Γ.N scope).map (·.2)) tg' it cond)) W σ H Q) :
    tLc (tM L p (WR L) (evI ev it) W) (tG L ⟨[], p.ρ0, p.H0⟩ (asgT tg') (slotsT tg')) (tM L ⟨[], p.ρ0, p.H0⟩ BR (condM ev cond) (fun _ _ _ _ => False)) (tM L ⟨[], p.ρ0, p.H0⟩ (VR L) (evE ev ce) (fun _ _ _ _ => False)) ((ownOf Γ.N scope).map (·.2)) σ H Q := by
  have own := (own_of (Γ := Γ) (scope := scope) (k := k) k).1 hg
  have pn := q.1
  obtain ⟨_, ρ, env, h0, R, er, pa, r⟩ := q
  rw [comp_eq] at r
  refine tM_next (P := WR L) (P' := VR L) (m := evI ev it) (f := fun env wk => M.bind (alloc (.lst [])) fun d => match d with
    | .ref r => M.bind (loopC (turnM ev ce ((ownOf Γ.N scope).map (·.2)) tg' cond env) r wk.len wk) fun _ => M.pure (D.ref r)
    | _ => M.bad) pn R er pa r fun ρ1 H1 h1 wk J e1 R1 er1 pa1 rw1 r1 => ?_
  intro A hn
  have RA := R1.alloc (p := A) (o := .lst []) (u := .lst []) hn (.lst .nil)
  have eA : Ext ρ1 H1 (ρ1 ++ [A]) (upd H1 A (.lst [])) := ext_alloc hn
  have hr : (ρ1 ++ [A])[h1.length]? = some A := by
    rw [← R1.len]
    simp
  refine ⟨LoopW L p σ env (turnM ev ce ((ownOf Γ.N scope).map (·.2)) tg' cond env) J A Q (fun c d H' => W c d σ H'), ⟨wk.len, ρ1 ++ [A], h1 ++ [.lst []], wk, h1.length, RA, er1.mono eA, pa1.trans eA, rw1.mono eA, hr, ?_⟩, ?_⟩
  · exact res.later eA r1
  · rintro i m H2 ⟨ρ2, h2, wk2, r2, R2, er2, pa2, w2, hr2, q2⟩
    cases em : wk2.next h2 with
    | none =>
      cases m <;> (simp only [M.bind, loopC, em] at q2; exact q2.elim)
    | some o =>
      cases o with
      | none =>
        refine .inl ⟨wk_stop R2 w2 em, ?_⟩
        cases m <;> (simp only [M.bind, loopC, em] at q2; exact q2.ret R2 (.ref hr2))
      | some y =>
        obtain ⟨d, wk3⟩ := y
        cases m with
        | zero =>
          simp only [M.bind, loopC, em] at q2
          exact q2.elim
        | succ m =>
          obtain ⟨go, yl⟩ := wk_go R2 w2 em
          refine .inr ⟨go, fun H' => LoopW L p σ env (turnM ev ce ((ownOf Γ.N scope).map (·.2)) tg' cond env) J A Q (fun c d H' => W c d σ H') (i + 1) m H', fun H' z => ⟨m, Nat.lt_succ_self m, z⟩, fun x H' y => ?_⟩
          obtain ⟨R2', e2', rd, w3⟩ := yl x H' y
          have q2 := res.later e2' q2
          have er2 := er2.mono e2'
          have pa2 := pa2.trans e2'
          have hr2 := e2'.get hr2
          clear R2
          have R2 := R2'
          -- the turn
          have q3 : res L (VR L) ρ2 H' (M.bind (turnM ev ce ((ownOf Γ.N scope).map (·.2)) tg' cond env d) (fun o => M.bind (match o with
              | some y => M.bind (app r2 y) fun _ => loopC (turnM ev ce ((ownOf Γ.N scope).map (·.2)) tg' cond env) r2 m wk3
              | none => loopC (turnM ev ce ((ownOf Γ.N scope).map (·.2)) tg' cond env) r2 m wk3) fun _ => M.pure (.ref r2)) h2) Q (fun c d H' => W c d σ H') := by
            rw [loopC_go em] at q2
            exact q2
          have q4 := res.noX (W' := fun _ _ _ => False) (res.bind (P := OR L) q3)
          cases ea : asgT tg' d (wipeE env ((ownOf Γ.N scope).map (·.2))) with
          | none =>
            simp only [ea] at q4
            exact q4.elim
          | some env2 =>
            simp only [ea] at q4
            refine ⟨(fun _ h => by cases h), ρ2, wipeE env ((ownOf Γ.N scope).map (·.2)), d, env2, er2.wipe _, rd, ea, fun σ3 er3 _ off => ⟨wipe_eq own off, ?_⟩⟩
            have nxt : ∀ {ρ3 : List Addr} {h3 : Hh} {H3 : Hp}, Ext ρ2 H' ρ3 H3 → Rep L ρ3 h3 H3 → res L (VR L) ρ3 H3 (M.bind (loopC (turnM ev ce ((ownOf Γ.N scope).map (·.2)) tg' cond env) r2 m wk3) (fun _ => M.pure (.ref r2)) h3) Q (fun c d H' => W c d σ H') →
                LoopW L p σ env (turnM ev ce ((ownOf Γ.N scope).map (·.2)) tg' cond env) J A Q (fun c d H' => W c d σ H') (i + 1) m H3 := fun {ρ3 h3 H3} e R3 z => ⟨ρ3, h3, wk3, r2, R3, er2.mono e, pa2.trans e, w3.mono e, e.get hr2, z⟩
            refine ⟨(fun _ h => by cases h), ρ2, env2, h2, R2, er3, pa2, (res.bind (P := BR) q4).mono fun b H3 => ?_⟩
            rintro ⟨ρ3, h3, b', e3, R3, rfl, q5⟩
            cases b' with
            | false =>
              refine iteF ?_
              obtain ⟨ρ4, h4, a, e4, R4, ra, q6⟩ := q5.ret (b := none) R3 trivial
              cases a with
              | none => exact nxt e4 R4 q6
              | some z => exact ra.elim
            | true =>
              refine iteT ⟨(fun _ h => by cases h), ρ3, env2, h3, R3, er3.mono e3, pa2.trans e3, (res.bind (P := VR L) q5).mono fun y H4 => ?_⟩
              rintro ⟨ρ4, h4, d4, e4, R4, rd4, q6⟩
              obtain ⟨ρ5, h5, a, e5, R5, ra, q7⟩ := q6.ret (b := some y) R4 rd4
              cases a with
              | none => exact ra.elim
              | some d5 =>
                have ra : VRel L.K ρ5 H4 d5 y := ra
                simp only [bind_bind] at q7
                obtain q8 := res.bind (P := UR) q7
                simp only [app] at q8
                cases e6 : h5[r2]? with
                | none =>
                  rw [e6] at q8
                  exact q8.elim
                | some o =>
                  cases o with
                  | lst xs =>
                    rw [e6] at q8
                    simp only at q8
                    split at q8
                    · next hz =>
                      have hr5 : ρ5[r2]? = some A := e5.get hr2
                      obtain ⟨vs, g1, g2⟩ := lst_at R5 hr5 e6
                      refine ⟨vs, g1, by rw [← g2.length]; exact hz, ?_⟩
                      have e9 : Ext ρ5 H4 ρ5 (upd H4 A (.lst (vs ++ [y]))) := ext_upd R5 hr5 e6
                      obtain ⟨ρ9, h9, _, e10, R9, _, q9⟩ := q8 ρ5 _ () e9 (R5.set hr5 e6 (.lst (g2.append (.cons ra .nil)))) trivial
                      exact nxt (e5.trans e10) R9 q9
                    · exact q8.elim
                  | _ =>
                    rw [e6] at q8
                    exact q8.elim
theorem comp_fold {iter : Expr} (hs : noSet iter = true) (env : PySem.Env) (x : Value) : foldedSetIterable iter env x = pure x := by
  cases iter <;> first | rfl | cases hs
theorem pe_compM (C : CxOk L Γ n ev p X) (hh : Γ.hot = false) {elt tg iter : Expr} {ifs : List Expr} {scope : Scope} {pos : Pos} {ce : CE} {tg' : Tg} {it : It} {cond : CEs} {k : Nat} {W : WX} (hb : blkC Γ.N Γ.sc scope (ownOf Γ.N scope) = true) (hs : noSet iter = true)
    (hi : PI X tg iter (tM L p (WR L) (evI ev it) W)) (hg : cTg { Γ with sc := relS scope Γ.sc, pin := [], thk := none, xas := none, xal := none, lam := false, fnc := fun x => scope.names.lookup x == some .cell } k tg = some tg')
    (ht : ∀ (s : Shared) (H : Hp) (A : Addr) (cl : List (Str × Addr)) (fp : List Addr), PTs (X.blk s H scope (compEnvC scope cl A X.env) fp) ifs (tM L ⟨[], p.ρ0, p.H0⟩ BR (condM ev cond) (fun _ _ _ _ => False)))
    (he : ∀ (s : Shared) (H : Hp) (A : Addr) (cl : List (Str × Addr)) (fp : List Addr), PE (X.blk s H scope (compEnvC scope cl A X.env) fp) elt (tM L ⟨[], p.ρ0, p.H0⟩ (VR L) (evE ev ce) (fun _ _ _ _ => False))) :
    PE X (.ListComp elt [⟨tg, iter, ifs, 0⟩] scope pos) (tM L p (VR L) (evE ev (.comp ce ((ownOf Γ.N scope).map (·.2)) tg' it cond)) W) :=
  PE.imp (pe_lc (C.calm hh) (by rw [C.N]; exact C.nd) hi (by rw [C.N, C.sc]; exact blkOk_by hb) (fun s H A cl fp => (pg_tgts (blk_ok C hh) k).1 hg) ht he (comp_fold hs _)) fun σ H Q q => comp_read C hg q
/-- name = [..] -/
theorem ps_compM (C : CxOk L Γ n ev p X) (hh : Γ.hot = false) {elt tg iter : Expr} {ifs : List Expr} {scope : Scope} {y : Str} {i : Nat} {py pos spos : Pos} {ce : CE} {tg' : Tg} {it : It} {cond : CEs} {k : Nat} {W : WX} (hb : blkC Γ.N Γ.sc scope (ownOf Γ.N scope) = true) (hs : noSet iter = true)
    (hi : PI X tg iter (tM L p (WR L) (evI ev it) W)) (hg : cTg { Γ with sc := relS scope Γ.sc, pin := [], thk := none, xas := none, xal := none, lam := false, fnc := fun x => scope.names.lookup x == some .cell } k tg = some tg')
    (ht : ∀ (s : Shared) (H : Hp) (A : Addr) (cl : List (Str × Addr)) (fp : List Addr), PTs (X.blk s H scope (compEnvC scope cl A X.env) fp) ifs (tM L ⟨[], p.ρ0, p.H0⟩ BR (condM ev cond) (fun _ _ _ _ => False)))
    (he : ∀ (s : Shared) (H : Hp) (A : Addr) (cl : List (Str × Addr)) (fp : List Addr), PE (X.blk s H scope (compEnvC scope cl A X.env) fp) elt (tM L ⟨[], p.ρ0, p.H0⟩ (VR L) (evE ev ce) (fun _ _ _ _ => False)))
    (hy : X.N[i]? = some y) (hl : X.env.scope.names.lookup y = some .local) (hsw : swapsWith (.ListComp elt [⟨tg, iter, ifs, 0⟩] scope pos) (some (.Name y py)) spos.line X.env = pure true) :
    PS X (.Assign [.Name y py] (.ListComp elt [⟨tg, iter, ifs, 0⟩] scope pos) spos) (tAsg (tM L p (VR L) (evE ev (.comp ce ((ownOf Γ.N scope).map (·.2)) tg' it cond)) W) (gName i)) :=
  PS.imp (ps_setLc (C.calm hh) (by rw [C.N]; exact C.nd) hy hl hsw hi (by rw [C.N, C.sc]; exact blkOk_by hb) (fun s H A cl fp => (pg_tgts (blk_ok C hh) k).1 hg) ht he (comp_fold hs _)) fun D σ H q => comp_read C hg q
end
end MX
set_option maxHeartbeats 4000000
namespace MX
open PySem PySem.Spec PyProof.Rows L2
section
variable {L : Lk} {Γ : Cn} {n : Nat} {ev : Ev} {p : Pn} {X : Cx}
theorem condG_one {c : CE} (env : Env) : condG (evEs ev (.cons c .nil) env) = condM ev (.cons c .nil) env := by
  simp only [evEs, condG, condM, M.pure]
  funext h
  unfold M.bind
  cases evE ev c env h <;> rfl
theorem condG_nil (env : Env) : condG (evEs ev .nil env) = condM ev .nil env := rfl
theorem loopC_bad {turn : D → M (Option D)} {r m : Nat} {wk : Wk} {h : Hh} {γ : Type} {k : Unit → M γ} (e : wk.next h = none) : M.bind (loopC turn r m wk) k h = .bad := by
  unfold M.bind
  cases m <;> (rw [loopC]; simp only [e])
theorem loopC_end {turn : D → M (Option D)} {r m : Nat} {wk : Wk} {h : Hh} {γ : Type} {k : Unit → M γ} (e : wk.next h = some none) : M.bind (loopC turn r m wk) k h = k () h := by
  unfold M.bind
  cases m <;> (rw [loopC]; simp only [e])
theorem loopC_out {turn : D → M (Option D)} {r : Nat} {wk : Wk} {h : Hh} {y : D × Wk} {γ : Type} {k : Unit → M γ} (e : wk.next h = some (some y)) : M.bind (loopC turn r 0 wk) k h = .bad := by
  unfold M.bind
  rw [loopC]
  simp only [e]
/-- one turn of a comprehension's loop that appends -/
theorem turn_read {α β : Type} {P : List Addr → Hp → α → β → Prop} {elt : Env → M D} {own : List Nat} {tg : Tg} {cond : Env → M (List D)} {env : Env} {σ : L2.St} {ρ : List Addr} {h : Hh} {H : Hp} {A : Addr} {r m : Nat} {wk wk3 : Wk} {d : D} {x : V} {k0 : Unit → M α} {Q : β → Hp → Prop} {W : Value → Option Addr → Hp → Prop}
    (sub : ∀ j ∈ slotsT tg, j ∈ own) (R : Rep L ρ h H) (er : ERel L.K ρ H env σ) (pa : Past p ρ H) (hr : ρ[r]? = some A) (rd : VRel L.K ρ H d x) (em : wk.next h = some (some (d, wk3)))
    (q : res L P ρ H (M.bind (loopC (turnG elt own tg cond env) r (m + 1) wk) k0 h) Q W) :
    tG L ⟨[], p.ρ0, p.H0⟩ (asgT tg) (slotsT tg) x (L2.wipe σ own) H fun σ2 H2 => L2.wipe σ2 own = L2.wipe σ own ∧ tM L ⟨[], p.ρ0, p.H0⟩ BR (fun env => condG (cond env)) (fun _ _ _ _ => False) σ2 H2 fun b H3 =>
      if b = true then tM L ⟨[], p.ρ0, p.H0⟩ (VR L) elt (fun _ _ _ _ => False) σ2 H3 fun y H4 => ∃ acc, H4 A = some (.lst acc) ∧ acc.length < sizeLine ∧
        (∃ ρ3 h3, Ext ρ H ρ3 (upd H4 A (.lst (acc ++ [y]))) ∧ Rep L ρ3 h3 (upd H4 A (.lst (acc ++ [y]))) ∧ res L P ρ3 (upd H4 A (.lst (acc ++ [y]))) (M.bind (loopC (turnG elt own tg cond env) r m wk3) k0 h3) Q W)
      else ∃ ρ3 h3, Ext ρ H ρ3 H3 ∧ Rep L ρ3 h3 H3 ∧ res L P ρ3 H3 (M.bind (loopC (turnG elt own tg cond env) r m wk3) k0 h3) Q W := by
  rw [loopC_go em] at q
  have q4 := res.noX (W' := fun _ _ _ => False) (res.bind (P := OR L) q)
  cases ea : asgT tg d (wipeE env own) with
  | none =>
    simp only [ea] at q4
    exact q4.elim
  | some env2 =>
    simp only [ea] at q4
    refine ⟨(fun _ h => by cases h), ρ, wipeE env own, d, env2, er.wipe _, rd, ea, fun σ3 er3 _ off => ⟨wipe_eq sub off, ?_⟩⟩
    refine ⟨(fun _ h => by cases h), ρ, env2, h, R, er3, pa, (res.bind (P := BR) q4).mono fun b H3 => ?_⟩
    rintro ⟨ρ3, h3, b', e3, R3, rfl, q5⟩
    cases b' with
    | false =>
      refine iteF ?_
      obtain ⟨ρ4, h4, a, e4, R4, ra, q6⟩ := q5.ret (b := none) R3 trivial
      cases a with
      | none => exact ⟨ρ4, h4, e4, R4, q6⟩
      | some z => exact ra.elim
    | true =>
      refine iteT ⟨(fun _ h => by cases h), ρ3, env2, h3, R3, er3.mono e3, pa.trans e3, (res.bind (P := VR L) q5).mono fun y H4 => ?_⟩
      rintro ⟨ρ4, h4, d4, e4, R4, rd4, q6⟩
      obtain ⟨ρ5, h5, a, e5, R5, ra, q7⟩ := q6.ret (b := some y) R4 rd4
      cases a with
      | none => exact ra.elim
      | some d5 =>
        have ra : VRel L.K ρ5 H4 d5 y := ra
        simp only [bind_bind] at q7
        obtain q8 := res.bind (P := UR) q7
        simp only [app] at q8
        cases e6 : h5[r]? with
        | none =>
          rw [e6] at q8
          exact q8.elim
        | some o =>
          cases o with
          | lst xs =>
            rw [e6] at q8
            simp only at q8
            split at q8
            · next hz =>
              have hr5 : ρ5[r]? = some A := e5.get hr
              obtain ⟨vs, g1, g2⟩ := lst_at R5 hr5 e6
              refine ⟨vs, g1, by rw [← g2.length]; exact hz, ?_⟩
              have e9 : Ext ρ5 H4 ρ5 (upd H4 A (.lst (vs ++ [y]))) := ext_upd R5 hr5 e6
              obtain ⟨ρ9, h9, _, e10, R9, _, q9⟩ := q8 ρ5 _ () e9 (R5.set hr5 e6 (.lst (g2.append (.cons ra .nil)))) trivial
              exact ⟨ρ9, h9, e5.trans e10, R9, q9⟩
            · exact q8.elim
          | _ =>
            rw [e6] at q8
            exact q8.elim
def LoopV (L : Lk) (p : Pn) {α β : Type} (P : List Addr → Hp → α → β → Prop) (ρ0 : List Addr) (H0 : Hp) (σ : L2.St) (env : Env) (turn : D → M (Option D)) (J : L2.It) (A : Addr) (r : Nat) (k0 : Unit → M α) (Q : β → Hp → Prop) (W : Value → Option Addr → Hp → Prop) (i m : Nat) (H : Hp) : Prop :=
  ∃ ρ h wk, Ext ρ0 H0 ρ H ∧ Rep L ρ h H ∧ ERel L.K ρ H env σ ∧ Past p ρ H ∧ WkRel L.K ρ H wk J i ∧ ρ[r]? = some A ∧ res L P ρ H (M.bind (loopC turn r m wk) k0 h) Q W
theorem comp2_read {own : List Nat} {tg tg1 : Tg} {elt : CE} {it it1 : It} {cond cond1 : CEs} {W : WX} {σ : L2.St} {H : Hp} {Q : VK} (sub : ∀ j ∈ slotsT tg, j ∈ own)
    (q : tM L p (VR L) (evE ev (.comp2 elt own (slotsT tg1) tg it cond tg1 it1 cond1)) W σ H Q) :
    tLc2 (tM L p (WR L) (evI ev it) W) (tG L ⟨[], p.ρ0, p.H0⟩ (asgT tg) (slotsT tg)) (tM L ⟨[], p.ρ0, p.H0⟩ BR (fun env => condG (evEs ev cond env)) (fun _ _ _ _ => False))
      (tM L ⟨[], p.ρ0, p.H0⟩ (WR L) (evI ev it1) (fun _ _ _ _ => False)) (tG L ⟨[], p.ρ0, p.H0⟩ (asgT tg1) (slotsT tg1)) (tM L ⟨[], p.ρ0, p.H0⟩ BR (fun env => condG (evEs ev cond1 env)) (fun _ _ _ _ => False))
      (tM L ⟨[], p.ρ0, p.H0⟩ (VR L) (evE ev elt) (fun _ _ _ _ => False)) own (slotsT tg1) σ H Q := by
  have pn := q.1
  obtain ⟨_, ρ, env, h0, R, er, pa, r⟩ := q
  simp only [evE, compG] at r
  refine tM_next (P := WR L) (P' := VR L) (m := evI ev it) (f := fun env wk => M.bind (alloc (.lst [])) fun d => match d with
    | .ref r => M.bind (loopC (turn2G (fun env2 => M.bind (evI ev it1 env2) fun wk1 => loopC (turnG (evE ev elt) (slotsT tg1) tg1 (evEs ev cond1) env2) r wk1.len wk1) own tg (evEs ev cond) env) r wk.len wk) fun _ => M.pure (D.ref r)
    | _ => M.bad) pn R er pa r fun ρ1 H1 h1 wk J e1 R1 er1 pa1 rw1 r1 => ?_
  intro A hn
  have RA := R1.alloc (p := A) (o := .lst []) (u := .lst []) hn (.lst .nil)
  have eA : Ext ρ1 H1 (ρ1 ++ [A]) (upd H1 A (.lst [])) := ext_alloc hn
  have hr : (ρ1 ++ [A])[h1.length]? = some A := by
    rw [← R1.len]
    simp
  refine ⟨LoopV L p (VR L) (ρ1 ++ [A]) (upd H1 A (.lst [])) σ env (turn2G (fun env2 => M.bind (evI ev it1 env2) fun wk1 => loopC (turnG (evE ev elt) (slotsT tg1) tg1 (evEs ev cond1) env2) h1.length wk1.len wk1) own tg (evEs ev cond) env) J A h1.length (fun _ => M.pure (D.ref h1.length)) Q (fun c d H' => W c d σ H'),
    ⟨wk.len, ρ1 ++ [A], h1 ++ [.lst []], wk, Ext.refl _ _, RA, er1.mono eA, pa1.trans eA, rw1.mono eA, hr, ?_⟩, ?_⟩
  · exact res.later eA r1
  · rintro i m H2 ⟨ρ2, h2, wk2, ex2, R2, er2, pa2, w2, hr2, q2⟩
    cases em : wk2.next h2 with
    | none =>
      rw [loopC_bad em] at q2
      exact q2.elim
    | some o =>
      cases o with
      | none =>
        refine .inl ⟨wk_stop R2 w2 em, ?_⟩
        rw [loopC_end em] at q2
        exact q2.ret R2 (.ref hr2)
      | some y =>
        obtain ⟨d, wk3⟩ := y
        cases m with
        | zero =>
          rw [loopC_out em] at q2
          exact q2.elim
        | succ m =>
          obtain ⟨go, yl⟩ := wk_go R2 w2 em
          refine .inr ⟨go, fun H' => LoopV L p (VR L) (ρ1 ++ [A]) (upd H1 A (.lst [])) σ env _ J A h1.length (fun _ => M.pure (D.ref h1.length)) Q (fun c d H' => W c d σ H') (i + 1) m H', fun H' z => ⟨m, Nat.lt_succ_self m, z⟩, fun x H' y => ?_⟩
          obtain ⟨R2', e2', rd, w3⟩ := yl x H' y
          have q2 := res.later e2' q2
          have er2 := er2.mono e2'
          have pa2 := pa2.trans e2'
          have hr2 := e2'.get hr2
          have ex2 := ex2.trans e2'
          clear R2
          have R2 := R2'
          have q3 := q2
          rw [loopC_go em] at q3
          have q4 := res.noX (W' := fun _ _ _ => False) (res.bind (P := OR L) q3)
          cases ea : asgT tg d (wipeE env own) with
          | none =>
            simp only [ea] at q4
            exact q4.elim
          | some env2 =>
            simp only [ea] at q4
            refine ⟨(fun _ h => by cases h), ρ2, wipeE env own, d, env2, er2.wipe _, rd, ea, fun σ3 er3 _ off => ⟨wipe_eq sub off, ?_⟩⟩
            have nxt : ∀ {ρ3 : List Addr} {h3 : Hh} {H3 : Hp}, Ext ρ2 H' ρ3 H3 → Rep L ρ3 h3 H3 → res L (VR L) ρ3 H3 (M.bind (loopC (turn2G (fun env2 => M.bind (evI ev it1 env2) fun wk1 => loopC (turnG (evE ev elt) (slotsT tg1) tg1 (evEs ev cond1) env2) h1.length wk1.len wk1) own tg (evEs ev cond) env) h1.length m wk3) (fun _ => M.pure (D.ref h1.length)) h3) Q (fun c d H' => W c d σ H') →
                LoopV L p (VR L) (ρ1 ++ [A]) (upd H1 A (.lst [])) σ env (turn2G (fun env2 => M.bind (evI ev it1 env2) fun wk1 => loopC (turnG (evE ev elt) (slotsT tg1) tg1 (evEs ev cond1) env2) h1.length wk1.len wk1) own tg (evEs ev cond) env) J A h1.length (fun _ => M.pure (D.ref h1.length)) Q (fun c d H' => W c d σ H') (i + 1) m H3 :=
              fun {ρ3 h3 H3} e R3 z => ⟨ρ3, h3, wk3, ex2.trans e, R3, er2.mono e, pa2.trans e, w3.mono e, e.get hr2, z⟩
            refine ⟨(fun _ h => by cases h), ρ2, env2, h2, R2, er3, pa2, (res.bind (P := BR) q4).mono fun b H3 => ?_⟩
            rintro ⟨ρ3, h3, b', e3, R3, rfl, q5⟩
            cases b' with
            | false =>
              refine iteF ?_
              obtain ⟨ρ4, h4, a, e4, R4, ra, q6⟩ := q5.ret (b := none) R3 trivial
              cases a with
              | none => exact nxt e4 R4 q6
              | some z => exact ra.elim
            | true =>
              simp only [bind_bind] at q5
              refine iteT ⟨(fun _ h => by cases h), ρ3, env2, h3, R3, er3.mono e3, pa2.trans e3, (res.bind (P := WR L) q5).mono fun J1 H4 => ?_⟩
              rintro ⟨ρ4, h4, wk1, e4, R4, rw4, q6⟩
              -- the second loop
              refine ⟨LoopV L p (OR L) ρ4 H4 σ3 env2 (turnG (evE ev elt) (slotsT tg1) tg1 (evEs ev cond1) env2) J1 A h1.length (fun _ => M.pure none) _ (fun _ _ _ => False), ⟨wk1.len, ρ4, h4, wk1, Ext.refl _ _, R4, (er3.mono e3).mono e4, (pa2.trans e3).trans e4, rw4, e4.get (e3.get hr2), q6⟩, ?_⟩
              rintro j k H5 ⟨ρ5, h5, wk5, ex5, R5, er5, pa5, w5, hr5, q7⟩
              cases em1 : wk5.next h5 with
              | none =>
                rw [loopC_bad em1] at q7
                exact q7.elim
              | some o1 =>
                cases o1 with
                | none =>
                  refine .inl ⟨wk_stop R5 w5 em1, ?_⟩
                  rw [loopC_end em1] at q7
                  obtain ⟨ρ6, h6, a, e6, R6, ra, q9⟩ := q7.ret (b := none) R5 trivial
                  cases a with
                  | none => exact nxt e6 R6 q9
                  | some z => exact ra.elim
                | some y1 =>
                  obtain ⟨d1, wk6⟩ := y1
                  cases k with
                  | zero =>
                    rw [loopC_out em1] at q7
                    exact q7.elim
                  | succ k =>
                    obtain ⟨go1, yl1⟩ := wk_go R5 w5 em1
                    refine .inr ⟨go1, fun H' => LoopV L p (OR L) ρ4 H4 σ3 env2 (turnG (evE ev elt) (slotsT tg1) tg1 (evEs ev cond1) env2) J1 A h1.length (fun _ => M.pure none) _ (fun _ _ _ => False) (j + 1) k H', fun H' z => ⟨k, Nat.lt_succ_self k, z⟩, fun x1 H7 y => ?_⟩
                    obtain ⟨R7, e7, rd7, w7⟩ := yl1 x1 H7 y
                    have t := turn_read (p := p) (fun _ h => h) R7 (er5.mono e7) (pa5.trans e7) (e7.get hr5) rd7 em1 (res.later e7 q7)
                    have nx1 : ∀ {KO : Option V → Hp → Prop} {ρd : List Addr} {hd : Hh} {Hd : Hp}, Ext ρ5 H7 ρd Hd → Rep L ρd hd Hd → res L (OR L) ρd Hd (M.bind (loopC (turnG (evE ev elt) (slotsT tg1) tg1 (evEs ev cond1) env2) h1.length k wk6) (fun _ => M.pure none) hd) KO (fun _ _ _ => False) →
                        LoopV L p (OR L) ρ4 H4 σ3 env2 (turnG (evE ev elt) (slotsT tg1) tg1 (evEs ev cond1) env2) J1 A h1.length (fun _ => M.pure none) KO (fun _ _ _ => False) (j + 1) k Hd :=
                      fun {KO ρd hd Hd} e Rd z => ⟨ρd, hd, wk6, (ex5.trans e7).trans e, Rd, (er5.mono e7).mono e, (pa5.trans e7).trans e, w7.mono e, e.get (e7.get hr5), z⟩
                    obtain ⟨t1, ρa, enva, da, enva', t2, t3, t4, t5⟩ := t
                    refine ⟨t1, ρa, enva, da, enva', t2, t3, t4, fun σ' er' pn' off => ?_⟩
                    obtain ⟨u1, u2, ρb, envb, hb, u3, u4, u5, u6⟩ := t5 σ' er' pn' off
                    refine ⟨u1, u2, ρb, envb, hb, u3, u4, u5, u6.mono fun b H8 v => ?_⟩
                    cases b with
                    | false =>
                      rw [if_neg (by decide)] at v ⊢
                      obtain ⟨ρd, hd, w3, w4, w5⟩ := v
                      exact nx1 w3 w4 w5
                    | true =>
                      rw [if_pos rfl] at v ⊢
                      obtain ⟨v1, ρc, envc, hc, v2, v3, v4, v5⟩ := v
                      refine ⟨v1, ρc, envc, hc, v2, v3, v4, v5.mono fun yv H9 z => ?_⟩
                      obtain ⟨acc, w1, w2, ρd, hd, w3, w4, w5⟩ := z
                      exact ⟨acc, w1, w2, nx1 w3 w4 w5⟩
theorem pe_comp2M (C : CxOk L Γ n ev p X) (hh : Γ.hot = false) {elt tg iter tg1 iter1 : Expr} {ifs ifs1 : List Expr} {scope : Scope} {pos : Pos} {ce : CE} {tg' tg1' : Tg} {it it1 : It} {cond cond1 : CEs} {k : Nat} {W : WX} (hb : blkC Γ.N Γ.sc scope (ownOf Γ.N scope) = true) (hs : noSet iter = true) (hs1 : noSet iter1 = true)
    (hi : PI X tg iter (tM L p (WR L) (evI ev it) W)) (hg : cTg { Γ with sc := relS scope Γ.sc, pin := [], thk := none, xas := none, xal := none, lam := false, fnc := fun x => scope.names.lookup x == some .cell } k tg = some tg')
    (hg1 : cTg { Γ with sc := relS scope Γ.sc, pin := [], thk := none, xas := none, xal := none, lam := false, fnc := fun x => scope.names.lookup x == some .cell } k tg1 = some tg1')
    (ht : ∀ (s : Shared) (H : Hp) (A : Addr) (cl : List (Str × Addr)) (fp : List Addr), PTs (X.blk s H scope (compEnvC scope cl A X.env) fp) ifs (tM L ⟨[], p.ρ0, p.H0⟩ BR (fun env => condG (evEs ev cond env)) (fun _ _ _ _ => False)))
    (hi1 : ∀ (s : Shared) (H : Hp) (A : Addr) (cl : List (Str × Addr)) (fp : List Addr), PI (X.blk s H scope (compEnvC scope cl A X.env) fp) tg1 iter1 (tM L ⟨[], p.ρ0, p.H0⟩ (WR L) (evI ev it1) (fun _ _ _ _ => False)))
    (ht1 : ∀ (s : Shared) (H : Hp) (A : Addr) (cl : List (Str × Addr)) (fp : List Addr), PTs (X.blk s H scope (compEnvC scope cl A X.env) fp) ifs1 (tM L ⟨[], p.ρ0, p.H0⟩ BR (fun env => condG (evEs ev cond1 env)) (fun _ _ _ _ => False)))
    (he : ∀ (s : Shared) (H : Hp) (A : Addr) (cl : List (Str × Addr)) (fp : List Addr), PE (X.blk s H scope (compEnvC scope cl A X.env) fp) elt (tM L ⟨[], p.ρ0, p.H0⟩ (VR L) (evE ev ce) (fun _ _ _ _ => False))) :
    PE X (.ListComp elt [⟨tg, iter, ifs, 0⟩, ⟨tg1, iter1, ifs1, 0⟩] scope pos) (tM L p (VR L) (evE ev (.comp2 ce ((ownOf Γ.N scope).map (·.2)) (slotsT tg1') tg' it cond tg1' it1 cond1)) W) :=
  PE.imp (pe_lc2 (C.calm hh) (by rw [C.N]; exact C.nd) hi (by rw [C.N, C.sc]; exact blkOk_by hb) ((own_of (Γ := Γ) (scope := scope) (k := k) k).1 hg1) (fun s H A cl fp => (pg_tgts (blk_ok C hh) k).1 hg) ht hi1 (fun s H A cl fp => (pg_tgts (blk_ok C hh) k).1 hg1) ht1 he (comp_fold hs _) (comp_fold hs1))
    fun σ H Q q => comp2_read ((own_of (Γ := Γ) (scope := scope) (k := k) k).1 hg) q
end
end MX
set_option maxHeartbeats 4000000
namespace MX
open PySem PySem.Spec PyProof.Rows L2
/-! ### what a body's end says of the call's -/
theorem res_ret {L : Lk} {p : Pn} {ρ : List Addr} {H : Hp} {r : SR} {Q : VK} {E : XK} (h : res L (VR L) ρ H (retR r) Q E) : resS L p ρ H r { nx := fun _ H' => Q .non H', rt := Q } (fun c d _ H' => E c d H') := by
  cases r with
  | nxt env h' => exact fun ρ' H' σ' e R _ _ => h ρ' H' .non e R .non
  | ret d h' => exact fun ρ' H' v e R rv => h ρ' H' v e R rv
  | exc x env h' => exact fun ρ' H' σ' c d e R _ _ xr => h ρ' H' c d e R xr
  | brk env h' => exact h.elim
  | cnt env h' => exact h.elim
  | bad => exact h.elim
section
variable {X : Cx} {pins : List (Addr × Obj)} {σ : L2.St} {H : Hp} {s : Shared}
/-- the lambda called, in the def that got it -/
theorem act_run {Eg : XK} {Ng : List Str} {qg : Str} {sg : Scope} {g f c' : Addr} {cdg pm ctv : Value} {params : Arguments} {body : Expr} {scope : Scope} {k j : Nat} {a : Str} {pnz : List (Addr × Obj)} {xez : Value → Shared → Prop} {W : WX} {tb : XK → TE} {q1 q2 : Pos}
    (I : Inv X pins σ H s) (S : LamX.LamS X.env.scope scope) (of : s.heap.get? f = some (PySem.W.kla_obj "<lambda>" (X.env.qual ++ "<lambda>") params body scope (cloFrom X.env.cells scope.names []) pm c' ctv)) (nf : H f = none) (ff : f ∉ frs X.stack)
    (bd : bindArgs (PySem.W.kla_fn "<lambda>" (X.env.qual ++ "<lambda>") params body scope (cloFrom X.env.cells scope.names []) pm (.ref c') ctv) ⟨[], []⟩ = pure [])
    (tk : Takes ((cxOf (L2.CX X.prog X.w) X.prog X.w X.K X.mg X.base Ng qg sg g cdg X.A X.stack s H Eg).tr pnz xez) W) (room : Room (k + 1) (X.A.deeper (envOfC qg sg s.heap.objs.size g cdg)))
    (run : ∀ (s1 : Shared) (H1 : Hp) (E : XK), PE (LamX.lamCx X (X.A.deeper (envOfC qg sg s.heap.objs.size g cdg)) (envOfC qg sg s.heap.objs.size g cdg :: X.stack) s1 H1 E scope f c') body (tb E))
    (aN : Ng[j]? = some a) (av : Vis sg a) (a1 : (a == ("__debug__" : Str)) = false) (a2 : (a == ("__classdict__" : Str)) = false) :
    PE ((cxOf (L2.CX X.prog X.w) X.prog X.w X.K X.mg X.base Ng qg sg g cdg X.A X.stack s H Eg).tr pnz xez) (.Call (.Name a q1) [] [] q2)
      (fun σz Hz Q => σz[j]? = some (some (.ref f)) ∧ Hz c' = some (LamX.CodeO c' (X.env.qual ++ "<lambda>")) ∧ tb (fun cls d H' => W cls d σz H') σ Hz Q) := by
  refine ⟨fun pz sz σz Hz Q Iz ⟨at_, code, q⟩ => ?_⟩
  refine wpAny_Call_Name_kw (thn ((pe_var (pos := q1) (i := j) aN av a1 a2).run pz sz σz Hz (fun v H1 => v = .ref f ∧ H1 = Hz) Iz ⟨.ref f, at_, rfl, rfl⟩) fun u s1 ⟨v, H1, I1, rv, e1, e2⟩ => ?_)
  subst e1 e2
  cases (show u = Value.ref f from rv)
  have of1 := I1.base.keep f _ of nf ff (fun z => nomatch (show f ∈ ([] : List Addr) from z))
  refine PySem.W.callWith_F0 ⟨_, _, _, _, of1⟩ ?_
  have grown : Un (frs X.stack) [] H H1 s.heap s1.heap := I1.base
  obtain ⟨⟨oc, vs, t, co1, co2, co3⟩, _, _⟩ := I1.hok c' _ code
  have called : codeAny (model X.prog X.w) (X.A.deeper (envOfC qg sg s.heap.objs.size g cdg)) (.call (.ref f) ⟨[], []⟩) (CR (L2.CX X.prog X.w) (envOfC qg sg s.heap.objs.size g cdg :: X.stack) X.prog X.w H1 s1 Q (fun cls d H' => W cls d σz H')) s1 := by
    refine PySem.W.kla_callFunE room.depth of1 rfl S.co S.gen rfl ⟨c', oc, vs, t, rfl, co1, co2, co3⟩ ?_
    rw [bd]
    refine wpAny_pure (wpAny_newFunctionEnv (fun y hy => (S.own y hy).2) (fun y hy => absurd hy (by simp)) (fun hp nsp sbp => ⟨I1.nolimit.fresh _ sbp, ?_⟩) S.kind)
    show codeAny _ _ (.expr body (LamX.lamEnv X scope s1.heap.objs.size f c')) _ _
    have J : Inv (LamX.lamCx X (X.A.deeper (envOfC qg sg s.heap.objs.size g cdg)) (envOfC qg sg s.heap.objs.size g cdg :: X.stack) s1 H1 (fun cls d H' => W cls d σz H') scope f c') [] σ H1 { s1 with heap := hp, toks := s1.toks + ([] : List (Str × Value)).length } :=
      LamX.lam_start2 I S I1.env0 room.hd grown nsp (fun b o e => sbp.extBut b o (Nat.ne_of_lt (Heap.lt_size e)) (Heap.get?_push_of_some _ e))
    refine PySem.W.kla_codeExpr (wpAny_mono ((run s1 H1 _).run [] _ _ H1 Q J q) (fun v s' ⟨w', H', J', r', q'⟩ => ⟨w', H', J'.os, J'.bare, J'.base, J'.hok, r', q'⟩) fun e s' x => x)
  refine wpAny_call (codeAny_mono called fun r s' x => ?_)
  match r, x with
  | .error e, x => exact passAt tk σz pz H1 s1 e s' I1 x
  | .ok (.ret u), x => exact I1.after x
  | .ok .next, x => exact x.elim
  | .ok .brk, x => exact x.elim
  | .ok .cont, x => exact x.elim
end
theorem no_param {params : Arguments} (h : noParam params = true) : params = ⟨[], [], none, [], [], none, []⟩ := by
  unfold noParam at h
  split at h
  · rfl
  · cases h
section
variable {L : Lk} {Γ : Cn} {n : Nat} {ev : Ev} {p : Pn} {X : Cx}
theorem pe_lamM (C : CxOk L Γ n ev p X) (hh : Γ.hot = false) (hl : Γ.lam = true) {x : Str} {i : Nat} {params : Arguments} {body : Expr} {scope : Scope} {cb : CE} {W : WX} {q1 q2 q3 : Pos} (tk : Takes X W) (hg : globB Γ.sc x = true) (hp : posOf Γ.g.fns x = some i) (ht : x ∈ Γ.g.thks)
    (hn : noParam params = true) (hs : LamX.lamSB Γ.sc scope = true)
    (run : ∀ (m : Nat) (Y : Cx) (W' : WX), CxOk L { Γ with sc := scope, thk := none, xas := none, xal := none, lam := false, fnc := fun _ => false } m { ev with l := tabs L.pg m } p Y → Takes Y W' → PE Y body (tM L p (VR L) (evE { ev with l := tabs L.pg m } cb) W')) :
    PE X (.Call (.Name x q1) [.Lambda params body scope q2] [] q3) (tM L p (VR L) (evE ev (.lam i cb)) W) := by
  refine ⟨fun pins s σ H Q I q => ?_⟩
  obtain ⟨pn, ρ, env, h0, R, er, pa, r⟩ := q
  obtain ⟨g1, g2, _, _⟩ := gl_of C hg
  simp only [evE] at r
  rw [C.lev] at r
  match n, C, r with
  | 0, C, r => exact r.elim
  | 1, C, r => exact r.elim
  | m + 2, C, r =>
    have r : res L (VR L) ρ H ((mkCl L.pg (tabs L.pg (m + 1))).callL i (evE { ev with l := tabs L.pg m } cb env) h0) Q (fun c d H' => W c d σ H') := r
    simp only [mkCl] at r
    split at r
    · next fd hfd =>
      split at r
      · next hthk =>
        obtain ⟨c, P, TB, hcode, hmT, hu⟩ := (C.lam hl).tab
        obtain ⟨a, g, Ng, pg, bg, sg, dV, kV, doc, pm, cdv, ct, oc, an, od, osl, hm, lk, hcg, hb, Sg, hNg, hva, a1, a2, hns, T⟩ := (C.thks 0 (m + 1) (by omega) i x hp ht).ex
        obtain ⟨g', hm', hk, _⟩ := C.gb.fnv x i hp
        rw [hm] at hm'
        cases hm'
        have S : LamX.LamS X.env.scope scope := LamX.lamS_by (by rw [C.sc]; exact hs)
        have np := no_param hn
        subst np
        refine wpAny_Call_Name_kw (ld_glob I g1 (by rw [C.x0.mg]; exact hm) ?_ g2)
        refine PySem.W.callWith_K (h₀ := X.base) I.ok.mod.kin (by rw [C.x0.K]; exact hk) ?_ (by rfl) (by rfl)
        show wpAny _ _ (spliced ((false, eval (.Lambda ⟨[], [], none, [], [], none, []⟩ body scope q2) X.env) :: backTo q3 (starEach [] X.env))) _ _ s
        refine Calls.spliced_cons (LamX.lam_make2 I TB hcode hmT hu R.tabs (by rfl) (S.has I.ok) fun f c' pm' ctv H1 s1 I1 eN T1 of nf ff co => ?_)
        refine Calls.spliced_nil ⟨I1.kIn, ?_⟩
        have E1 : Ext ρ H ρ H1 := ⟨⟨[], by simp⟩, fun b o st e => eN b o e (by rintro qs rfl; exact st)⟩
        have R1 : Rep L ρ h0 H1 := ⟨R.len, R.nd, fun k b o e1 e2 => by
          obtain ⟨u, e3, e4⟩ := R.obj k b o e1 e2
          exact ⟨u, eN b u e3 e4.noTbl, e4.mono E1⟩, T1⟩
        have rm := C.room hh
        have called : codeAny (model X.prog X.w) X.A (.call (.ref g) ⟨[.ref f], []⟩) (CR (L2.CX X.prog X.w) X.stack X.prog X.w H1 s1 Q (WE W σ)) s1 := by
          refine LamX.run_ofS (K := X.K) (mg := X.mg) (base := X.base) (N := Ng) (ps := [a]) (us := [.ref f]) (vs := [.ref f]) (by rw [C.x0.K]; exact lk) (by rw [C.x0.K]; exact hcg) Sg rm I1.env0 (hb s1 [.ref f] (by rw [← C.x0.K]; exact I1.kIn) rfl) (.cons rfl .nil) rfl fun rm' => ?_
          refine ⟨tS L ⟨[(0, .ref f)], ρ, H1⟩ (exSs ⟨L.pg, tabs L.pg (m + 1), some (evE { ev with l := tabs L.pg m } cb env), none⟩ fd.body) (fun c d _ H' => W c d σ H'), ?_, ?_⟩
          · have := T X.A X.stack s1 H1 (WE W σ) f ρ H1 (evE { ev with l := tabs L.pg m } cb env) fd rm' C.x0.gd hfd (fun pnz xez Wz z1 z2 tkz => ?_) hthk
            · rw [C.x0.K, C.x0.mg]
              exact this
            · have CY : ∀ (s2 : Shared) (H2 : Hp) (E : XK), CxOk L { Γ with sc := scope, thk := none, xas := none, xal := none, lam := false, fnc := fun _ => false } m { ev with l := tabs L.pg m } p
                  (LamX.lamCx X (X.A.deeper (envOfC x sg s1.heap.objs.size g cdv)) (envOfC x sg s1.heap.objs.size g cdv :: X.stack) s2 H2 E scope f c') := fun s2 H2 E => {
                x0 := ⟨C.x0.K, C.x0.mg, by have := (rm'.deeper (LamX.lamEnv X scope s2.heap.objs.size f c')).un; show ((X.A.deeper (envOfC x sg s1.heap.objs.size g cdv)).deeper (LamX.lamEnv X scope s2.heap.objs.size f c')).units + 200 < cLine; omega, C.x0.gd⟩
                gb := C.gb
                N := C.N
                nd := C.nd
                sc := rfl
                pin := C.pin
                room := fun _ => rm'.deeper _
                calm := fun _ => rfl
                fn := fun _ z => by cases z
                pg := C.pg
                lev := rfl
                fns := fun k m' z => C.fns (k + 2) m' (by omega)
                thks := fun k m' z => C.thks (k + 2) m' (by omega)
                thk := fun _ z => by cases z
                xas := fun _ z => by cases z
                lam := fun z => by cases z
                hts := fun k m' z => C.hts (k + 2) m' (by omega)
                xal := fun _ z => by cases z }
              have P1 := act_run (Eg := WE W σ) (Ng := Ng) (qg := x) (sg := sg) (g := g) (cdg := cdv) (j := 0) (q1 := z1) (q2 := z2) (a := a) (pnz := pnz) (xez := xez) (W := Wz) (k := m) I1 S of nf ff (by rfl) (by rw [C.x0.K, C.x0.mg]; exact tkz) rm'
                (tb := fun E => tM L p (VR L) (evE { ev with l := tabs L.pg m } cb) (fun c d _ H' => E c d H'))
                (fun s2 H2 E => run m _ _ (CY s2 H2 E) (takes_of rfl rfl rfl rfl)) hNg hva a1 a2
              rw [C.x0.K, C.x0.mg] at P1
              refine PE.imp P1 fun σz Hz Qz qz => ?_
              obtain ⟨pz, ρz, _, hz, Rz, _, paz, rz⟩ := qz
              refine ⟨pz (0, .ref f) (by simp), paz.sta _ _ trivial co, pn, ρz, env, hz, Rz, (er.mono E1).mono paz, (pa.trans E1).trans paz, rz⟩
          · refine ⟨fun q hq => ?_, ρ, List.replicate fd.ns none, h0, R1, ?_, Ext.refl _ _, res_ret (res.later E1 r)⟩
            · simp only [List.mem_singleton] at hq
              subst hq
              unfold L2.start
              rfl
            · rw [hns fd hfd]
              refine ⟨?_, fun k d z => ?_⟩
              · unfold L2.start
                have : 0 < Ng.length := (List.getElem?_eq_some_iff.mp hNg).1
                simp
                omega
              · rw [List.getElem?_replicate] at z
                split at z <;> cases z
        refine wpAny_call (codeAny_mono called fun r s' x => ?_)
        match r, x with
        | .error e, x => exact passAt tk σ pins H1 s1 e s' I1 x
        | .ok (.ret u), x => exact I1.after x
        | .ok .next, x => exact x.elim
        | .ok .brk, x => exact x.elim
        | .ok .cont, x => exact x.elim
      · exact r.elim
    · exact r.elim
end
end MX
set_option maxHeartbeats 4000000
namespace MX
open PySem PySem.Spec PyProof.Rows L2
theorem res.noX2 {L : Lk} {α β : Type} {P : List Addr → Hp → α → β → Prop} {m : M α} {h : Hh} {H : Hp} {ρ : List Addr} {Q : β → Hp → Prop} {W W' : Value → Option Addr → Hp → Prop} (r : res L P ρ H (MX.noX m h) Q W) : res L P ρ H (MX.noX m h) Q W' := by
  unfold MX.noX at r ⊢
  cases e : m h with
  | exc x h' =>
    rw [e] at r
    exact r.elim
  | ok a h' =>
    rw [e] at r
    exact r
  | bad =>
    rw [e] at r
    exact r.elim
/-! ### exceptions that are held as values -/
section
variable {L : Lk} {Γ : Cn} {n : Nat} {ev : Ev} {p : Pn} {X : Cx}
/-- what a class's name may stand for -/
def ClsV (L : Lk) (t : Str) (v : V) (u : Value) : Prop := (L.mg t = some u ∨ (L.mg t = none ∧ bootBuiltins t = some u)) ∧ L2.RelV v u
def tCls (L : Lk) (t : Str) : TE := fun σ H Q => ∃ v u, ClsV L t v u ∧ Q v H
theorem pe_clsN (C : CxOk L Γ n ev p X) {t : Str} {p2 : Pos} (hg : globB Γ.sc t = true) : PE X (.Name t p2) (tCls L t) := by
  obtain ⟨g1, g2, _, g3⟩ := gl_of C hg
  refine ⟨fun pins s σ H Q I ⟨v, u, ⟨h, r⟩, q⟩ => ?_⟩
  rcases h with h | ⟨h, hb⟩
  · exact ld_glob I g1 (by rw [C.x0.mg]; exact h) ⟨v, H, I, r, q⟩ g2
  · exact ld_blt I g1 (by rw [C.x0.mg]; exact h) hb ⟨v, H, I, r, q⟩ g3 g2
theorem rel_cls {t : Str} {v : V} {u u' : Value} (h : ClsV L t v u) (r : L2.RelV v u') (k : ∃ C' T, u = .ref C' ∨ u = .type T) : u' = u := by
  obtain ⟨C', T, k⟩ := k
  obtain ⟨_, r0⟩ := h
  cases v with
  | ref a =>
    rw [show u = Value.ref a from r0, show u' = Value.ref a from r]
  | ty x =>
    rw [show u = Value.type x from r0, show u' = Value.type x from r]
  | _ =>
    rcases k with rfl | rfl
    · first
        | (obtain ⟨_, z⟩ := r0; cases z)
        | cases r0
    · first
        | (obtain ⟨_, z⟩ := r0; cases z)
        | cases r0
/-- what the table says of a class, as the text's name tells it -/
theorem isb_cls (G : GbOk L Γ.g) {c t : Str} {b : Bool} (h : L.pg.isb c t = some b) : ∃ C, PySem.W.nsIn L.K mainGlobals c = some (some (.ref C)) ∧ ExcC L.K C ∧ ∃ v u, ClsV L t v u ∧ (∃ C' T, u = .ref C' ∨ u = .type T) ∧ PySem.W.kitOne L.K (.ref C) u = some b := by
  obtain ⟨C, n1, T, k⟩ := G.xis c t b h
  refine ⟨C, n1, T, ?_⟩
  rcases k with ⟨C', m, e⟩ | ⟨m, T', hb, e⟩
  · exact ⟨.ref C', .ref C', ⟨.inl m, rfl⟩, ⟨C', "", .inl rfl⟩, e⟩
  · exact ⟨.ty T', .type T', ⟨.inr ⟨m, hb⟩, rfl⟩, ⟨0, T', .inr rfl⟩, e⟩
theorem pe_isxM (C : CxOk L Γ n ev p X) {k : Nat} {a : Expr} {ca : CE} {x t : Str} {W : WX} {p1 p2 pos : Pos} (hx : x = "isinstance") (hg : globB Γ.sc x = true) (hb : x ∈ Γ.g.bl) (hg2 : globB Γ.sc t = true) (hc : cE k Γ a = some ca)
    (ha : PE X a (tM L p (VR L) (evE ev ca) W)) : PE X (.Call (.Name x p1) [a, .Name t p2] [] pos) (tM L p (VR L) (evE ev (.isx ca t)) W) := by
  refine ⟨fun pins s σ H Q I q => ?_⟩
  obtain ⟨g1, g2, _, g3⟩ := gl_of C hg
  refine wpAny_Call_Name_kw (ld_blt I g1 (by rw [C.x0.mg]; exact C.gb.bl x hb) (u := .builtin "isinstance") (by rw [hx]; exact PyProof.Rows.boot_isinstance) ?_ g3 g2)
  have pa2 : PA X [a, .Name t p2] (tCons (tM L p (VR L) (evE ev ca) W) (tCons (tCls L t) tNil)) := pa_cons ha (pa_cons (pe_clsN C hg2) pa_nil (by rfl)) (star_of hc _ _)
  have q := tM_bind (P := VR L) (f := fun _ x => isxD ev.pg t x) q
  have q2 : tCons (tM L p (VR L) (evE ev ca) W) (tCons (tCls L t) tNil) σ H (fun vs H1 => ∃ x v u, vs = [x, v] ∧ ClsV L t v u ∧ (∃ C' T, u = .ref C' ∨ u = .type T) ∧ ∃ ρ1 c f xs b C', VRel L.K ρ1 H1 (.exn c f xs) x ∧ PySem.W.nsIn L.K mainGlobals c = some (some (.ref C')) ∧ ExcC L.K C' ∧
      PySem.W.kitOne L.K (.ref C') u = some b ∧ Q (.bl b) H1) := by
    obtain ⟨pn, ρ, env, h0, R, er, pa, r⟩ := q
    refine ⟨pn, ρ, env, h0, R, er, pa, r.mono fun x H1 => ?_⟩
    rintro ⟨ρ1, env1, h1, d, R1, er1, pa1, rd, r1⟩
    rw [C.pg] at r1
    simp only [isxD] at r1
    split at r1
    · next c f xs =>
      split at r1
      · next b e =>
        obtain ⟨C', n1, T, v, u, cv, cu, ek⟩ := isb_cls C.gb e
        exact ⟨v, u, cv, x, v, u, rfl, cv, cu, ρ1, c, f, xs, b, C', rd, n1, T, ek, r1.ret R1 (.bl _)⟩
      · exact r1.elim
    · exact r1.elim
  refine PyProof.Rows.callWith_builtin1 (thn (pa2.run pos pins s σ H _ I q2) fun us s1 ⟨vs, H1, I1, rv, x, v, u, ev', cv, cu, ρ1, c, f, xs, b, C', rd, n1, T, ek, q3⟩ => ?_) (star_of hc _ _) (by rfl)
  subst ev'
  cases rv with
  | cons ra rest =>
    cases rest with
    | cons rb rest2 =>
      cases rest2
      have := rel_cls cv rb cu
      subst this
      rw [← C.x0.K] at T n1 rd ek
      exact isx_run I1 T n1 rd ra ek q3
/-- X(e), e shown alone or kept in a field -/
theorem pe_mkx0 (C : CxOk L Γ n ev p X) (hv : Γ.g.xv = true) {k c : Nat} {e : Expr} {ce : CE} {x f : Str} {W : WX} {p1 pos : Pos} (hg : globB Γ.sc x = true) (hp : posOf Γ.g.cls x = some c) (hi : Γ.g.ini[c]? = some none) (hc : cE k Γ e = some ce)
    (he : PE X e (tM L p (VR L) (evE ev ce) W)) : PE X (.Call (.Name x p1) [e] [] pos) (tM L p (VR L) (evE ev (.mkx x f false ce)) W) := by
  obtain ⟨g1, g2, _, g3⟩ := gl_of C hg
  obtain ⟨c1, c2⟩ := C.gb.cls x c hp
  obtain ⟨B, newId, initId, bmB, F, ex, kp, _, _⟩ := C.gb.exo c c1 hi
  have ns := C.gb.nsc hv x c hp
  refine PE.imp (pe_exc1 F (by rw [C.x0.K]; exact ex) (by rw [C.x0.mg]; exact c2) (by rw [C.x0.K]; exact kp) g1 he (star_of hc _ _) g2) fun σ H Q q => ?_
  have q := tM_bind (P := VR L) (P' := VR L) (m := evE ev ce) (f := fun _ _ => M.pure (D.exn x f [])) q
  obtain ⟨pn, ρ, env, h0, R, er, pa, r⟩ := q
  refine ⟨pn, ρ, env, h0, R, er, pa, r.mono fun v H1 => ?_⟩
  rintro ⟨ρ1, env1, h1, d, R1, er1, pa1, rd, r1⟩
  intro a ha
  exact r1 ρ1 _ (.ref a) (ext_new ha) (R1.side ha) (.exn0 ns upd_same)
theorem pe_mkx1 (C : CxOk L Γ n ev p X) (hh : Γ.hot = false) (hv : Γ.g.xv = true) {k c j : Nat} {e : Expr} {ce : CE} {x f : Str} {W : WX} {p1 pos : Pos} (hg : globB Γ.sc x = true) (hp : posOf Γ.g.cls x = some c) (hi : Γ.g.ini[c]? = some (some j)) (hj : Γ.g.fld[j]? = some f) (hc : cE k Γ e = some ce)
    (he : PE X e (tM L p (VR L) (evE ev ce) W)) : PE X (.Call (.Name x p1) [e] [] pos) (tM L p (VR L) (evE ev (.mkx x f true ce)) W) := by
  obtain ⟨g1, g2, _, g3⟩ := gl_of C hg
  obtain ⟨c1, c2⟩ := C.gb.cls x c hp
  obtain ⟨T, _, _⟩ := C.gb.exi c j c1 hi
  rw [C.gb.fld j f hj] at T
  have ns := C.gb.nsc hv x c hp
  match n, C with
  | 0, C =>
    refine ⟨fun pins s σ H Q I q => ?_⟩
    obtain ⟨pn, ρ, env, h0, R, er, pa, r⟩ := q
    simp only [evE] at r
    rw [C.lev] at r
    exact r.elim
  | 1, C =>
    refine ⟨fun pins s σ H Q I q => ?_⟩
    obtain ⟨pn, ρ, env, h0, R, er, pa, r⟩ := q
    simp only [evE] at r
    rw [C.lev] at r
    exact r.elim
  | m + 2, C =>
    refine PE.imp (pe_xini (k := m) (C := L.clA c) (f := f) (by rw [C.x0.K]; exact T) (C.room hh) g1 (by rw [C.x0.mg]; exact c2) he g2 fun es => star_of hc _ _) fun σ H Q q => ?_
    have q : tM L p (VR L) (fun env => M.bind (evE ev ce env) fun d => M.pure (.exn x f [d])) W σ H Q := by
      obtain ⟨pn, ρ, env, h0, R, er, pa, r⟩ := q
      refine ⟨pn, ρ, env, h0, R, er, pa, ?_⟩
      simp only [evE] at r
      rw [C.lev] at r
      exact r
    have q := tM_bind (P := VR L) (P' := VR L) (m := evE ev ce) (f := fun _ d => M.pure (D.exn x f [d])) q
    obtain ⟨pn, ρ, env, h0, R, er, pa, r⟩ := q
    refine ⟨pn, ρ, env, h0, R, er, pa, r.mono fun v H1 => ?_⟩
    rintro ⟨ρ1, env1, h1, d, R1, er1, pa1, rd, r1⟩
    intro a dd ha hd ne
    have ha' : (upd H1 dd (exd dd [(f, v)])) a = none := by
      rw [upd_ne (Ne.symm ne)]
      exact ha
    have E1 : Ext ρ1 H1 ρ1 (upd (upd H1 dd (exd dd [(f, v)])) a (exo a (L.clA c) (some dd))) := (ext_new hd).trans (ext_new ha')
    exact r1 ρ1 _ (.ref a) E1 ((R1.side hd).side ha') (.exn1 ns upd_same (by rw [upd_ne ne]; exact upd_same) (rd.mono E1))
/-- the object that is handled, as an instance of its class -/
theorem al_inst {y : XV} {pins : List (Addr × Obj)} {s : Shared} {σ : L2.St} {H : Hp} {a : Addr} {oe : Obj} {cls : Value} {d : Option Addr} {ρ : List Addr} (I : Inv X pins σ H s) (hp : (a, oe) ∈ X.pn) (hz : Zc cls d oe) (hf : ∃ vs, oe.data = .fields vs)
    (xr : XRel L ρ H y cls d) : ∃ ox od, PySem.W.InstAt s.heap a ox (L.clA y.cls) od := by
  have P1 : s.heap.get? a = some oe := (I.pin (a, oe) (List.mem_append_left _ hp)).1
  obtain ⟨vs, hf⟩ := hf
  obtain ⟨_, x2, _, x4⟩ := xr
  have nc : PySem.W.notCls oe = true := by
    unfold PySem.W.notCls
    rw [hf]
  rcases x4 with x4 | ⟨dd, gs, x4, x5⟩
  · refine ⟨oe, none, P1, hz.1.trans x2, nc, ?_⟩
    rw [hz.2, x4]
    trivial
  · obtain ⟨mA, hn, _⟩ := (show ObjOk X.prog X.w H s.heap dd (.xd gs) from I.hok dd _ x5)
    obtain ⟨od, ho, _⟩ := lookIn_ns hn
    refine ⟨oe, some od, P1, hz.1.trans x2, nc, ?_⟩
    rw [hz.2, x4]
    exact ho
theorem XRel.cl {ρ : List Addr} {H : Hp} {x : XV} {cls : Value} {d : Option Addr} (h : XRel L ρ H x cls d) : x.cls < L.nc := h.1
theorem pe_xisM (C : CxOk L Γ n ev p X) {x nm t : Str} {W : WX} {p1 p2 p3 pos : Pos} (ha : Γ.xal = some nm) (hx : x = "isinstance") (hg : globB Γ.sc x = true) (hb : x ∈ Γ.g.bl) (hg2 : globB Γ.sc t = true) :
    PE X (.Call (.Name x p1) [.Name nm p2, .Name t p3] [] pos) (tM L p (VR L) (evE ev (.xis t)) W) := by
  obtain ⟨y, ey, A⟩ := C.xal nm ha
  obtain ⟨i, a, oe, cls, d, h1, h2, h3, h4, hpv, hpn, hz, hf, xr⟩ := A.ex
  refine ⟨fun pins s σ H Q I q => ?_⟩
  obtain ⟨g1, g2, _, g3⟩ := gl_of C hg
  refine wpAny_Call_Name_kw (ld_blt I g1 (by rw [C.x0.mg]; exact C.gb.bl x hb) (u := .builtin "isinstance") (by rw [hx]; exact PyProof.Rows.boot_isinstance) ?_ g3 g2)
  have pv : PE X (.Name nm p2) (tVar i) := pe_var h1 h2 h3 h4
  have pa2 : PA X [.Name nm p2, .Name t p3] (tCons (tVar i) (tCons (tCls L t) tNil)) := pa_cons pv (pa_cons (pe_clsN C hg2) pa_nil (by rfl)) (by rfl)
  obtain ⟨pn, ρ, env, h0, R, er, pa, r⟩ := q
  simp only [evE, ey] at r
  rw [C.pg] at r
  simp only [isxD] at r
  split at r
  · next b e =>
    obtain ⟨C', n1, T, v, u, cv, cu, ek⟩ := isb_cls C.gb e
    have n2 := C.gb.nam _ _ _ xr.cl e
    rw [n1] at n2
    have hC : C' = L.clA y.cls := by
      have := n2
      simp only [Option.some.injEq, Value.ref.injEq] at this
      exact this
    subst hC
    have xr' := xr.mono pa
    have q2 : tCons (tVar i) (tCons (tCls L t) tNil) σ H (fun vs H1 => vs = [.ref a, v] ∧ H1 = H) := ⟨.ref a, pn (i, .ref a) hpv, v, u, cv, rfl, rfl⟩
    refine PyProof.Rows.callWith_builtin1 (thn (pa2.run pos pins s σ H _ I q2) fun us s1 ⟨vs, H1, I1, rv, ev', eH⟩ => ?_) (by rfl) (by rfl)
    subst ev' eH
    cases rv with
    | cons ra rest =>
      cases rest with
      | cons rb rest2 =>
        cases rest2
        have := rel_cls cv rb cu
        subst this
        cases ra
        rw [← C.x0.K] at T ek
        exact PySem.W.kia_one (kit_exc T) I1.kIn (al_inst I1 hpn hz hf xr') ek (fun z => nomatch z) fun tk => ⟨.bl b, H1, I1.tok _, rfl, r.ret R (.bl b)⟩
  · exact r.elim
theorem pe_hclM (C : CxOk L Γ n ev p X) {x nm : Str} {i : Nat} {W : WX} {p1 p2 pos : Pos} (ha : Γ.xal = some nm) (hg : globB Γ.sc x = true) (hp : posOf Γ.g.fns x = some i) (hh : x ∈ Γ.g.hots) :
    PE X (.Call (.Name x p1) [.Name nm p2] [] pos) (tM L p (VR L) (evE ev (.hcl i)) W) := by
  obtain ⟨y, ey, A⟩ := C.xal nm ha
  obtain ⟨j, a, oe, cls, d, h1, h2, h3, h4, hpv, hpn, hz, hf, xr⟩ := A.ex
  refine ⟨fun pins s σ H Q I q => ?_⟩
  obtain ⟨g1, g2, _, g3⟩ := gl_of C hg
  obtain ⟨fa, hm, hk, ha0, hd0⟩ := C.gb.fnv x i hp
  refine wpAny_Call_Name_kw (ld_glob I g1 (by rw [C.x0.mg]; exact hm) ?_ g2)
  have pv : PE X (.Name nm p2) (tVar j) := pe_var h1 h2 h3 h4
  have pa2 : PA X [.Name nm p2] (tCons (tVar j) tNil) := pa_cons pv pa_nil (by rfl)
  obtain ⟨pn, ρ, env, h0, R, er, pa, r⟩ := q
  simp only [evE, ey] at r
  rw [C.lev] at r
  cases n with
  | zero => exact r.elim
  | succ m =>
    have r : res L (VR L) ρ H ((mkCl L.pg (tabs L.pg m)).callH i y h0) Q (fun c d H' => W c d σ H') := r
    have q2 : tCons (tVar j) tNil σ H (fun vs H1 => vs = [.ref a] ∧ H1 = H) := ⟨.ref a, pn (j, .ref a) hpv, rfl, rfl⟩
    refine PySem.W.callWith_K (h₀ := X.base) I.ok.mod.kin (by rw [C.x0.K]; exact hk) (thn (pa2.run pos pins s σ H _ I q2) fun us s1 ⟨vs, H1, I1, rv, ev', eH⟩ => ⟨I1.kIn, ?_⟩) (by rfl) (by rfl)
    subst ev' eH
    cases rv with
    | cons ra rest =>
      cases rest
      cases ra
      obtain ⟨a', fd, ps, f1, f2, f3, F⟩ := (C.hts 0 m (by omega) i x hp hh).ex
      rw [ha0] at f1
      subst f1
      have P1 := I1.pin (a, oe) (List.mem_append_left _ hpn)
      have hpin : L2H.PinOk X.stack H1 s1 (a, oe) := ⟨P1.1, P1.2.1, fun hm => (List.mem_cons.mp (I1.stkSub a hm)).elim P1.2.2.1 P1.2.2.2.1, P1.2.2.2.2⟩
      have hbd := (show Binds X.K fd ps [] by rw [C.x0.K]; exact f3) s1 [.ref a] I1.kIn (by rw [List.append_nil]; exact F.len.symm)
      rw [List.append_nil] at hbd
      have run := F.run X.A X.stack s1 H1 ⟨[.ref a], []⟩ a oe cls d Q (fun _ _ _ => False) y ρ h0 A.room C.x0.gd hpin hz hf (by rw [← C.x0.K, ← C.x0.mg]; exact I1.env0) hbd R (xr.mono pa) (by
        have r2 := r
        simp only [mkCl] at r2 ⊢
        split at r2
        · split at r2
          · exact res.noX2 r2
          · exact r2.elim
        · exact r2.elim)
      refine wpAny_call (codeAny_mono run fun r' s' hq => ?_)
      match r', hq with
      | .error e, hq =>
        obtain ⟨_, _, _, _, _, _, _, _, _, _, _, _, z⟩ := hq
        exact z.elim
      | .ok (.ret u), hq => exact I1.after hq
      | .ok .next, hq => exact hq.elim
      | .ok .brk, hq => exact hq.elim
      | .ok .cont, hq => exact hq.elim
end
end MX
set_option maxHeartbeats 4000000
namespace MX
open PySem PySem.Spec PyProof.Rows L2
/-! ### dict comprehensions -/
section
variable {L : Lk} {Γ : Cn} {n : Nat} {ev : Ev} {p : Pn} {X : Cx}
theorem KRels.put {K : PySem.W.Frag} {ρ : List Addr} {H : Hp} {x : Str} {d : D} {v : V} {kvs : List (D × D)} {s : List (Key × V)} (r : KRels K ρ H kvs s) (rv : VRel K ρ H d v) : KRels K ρ H (putD kvs x d) (putK s (.inr x) v) := by
  have hk : ∀ k : Key, txIs x (keyD k) = decide (k = .inr x) := fun k => by
    cases k with
    | inl i => rfl
    | inr y =>
      show decide (y = x) = _
      simp
  have ha : (kvs.any fun p => txIs x p.1) = s.any fun kv => decide (kv.1 = .inr x) := by
    induction r with
    | nil => rfl
    | cons a b ih => rw [List.any_cons, List.any_cons, hk, ih]
  unfold putD putK
  rw [ha]
  by_cases z : (s.any fun kv => decide (kv.1 = .inr x)) = true
  · rw [if_pos z, if_pos z]
    clear ha z
    induction r with
    | nil => exact .nil
    | @cons k d' v' r' s' a b ih =>
      rw [List.map_cons, List.map_cons, hk]
      by_cases e : k = .inr x
      · rw [if_pos (decide_eq_true e), if_pos e]
        exact .cons rv ih
      · rw [if_neg (by simpa using e), if_neg e]
        exact .cons a ih
  · rw [if_neg z, if_neg z]
    clear ha z
    induction r with
    | nil => exact .cons (k := .inr x) rv .nil
    | cons a b ih => exact .cons a ih
theorem dcm_at {ρ : List Addr} {h : Hh} {H : Hp} (R : Rep L ρ h H) {r : Nat} {a : Addr} {xs : List (D × D)} (e : ρ[r]? = some a) (o : h[r]? = some (.dcm xs)) : ∃ vs, H a = some (.dK vs) ∧ KRels L.K ρ H xs vs := by
  obtain ⟨u, e1, e2⟩ := R.obj r a _ e o
  cases e2 with
  | dcm r => exact ⟨_, e1, r⟩
def turnD (ev : Ev) (ke ve : CE) (own : List Nat) (tg : Tg) (env : Env) (v : D) : M (Str × D) := noX (match asgT tg v (wipeE env own) with
  | some env' => M.bind (evE ev ke env') fun k => match k with
    | .str x => M.bind (evE ev ve env') fun y => M.pure (x, y)
    | _ => M.bad
  | none => M.bad)
theorem dcomp_eq (ke ve : CE) (own : List Nat) (tg : Tg) (it : It) (env : Env) : evE ev (.dcomp ke ve own tg it) env = M.bind (evI ev it env) fun wk => M.bind (alloc (.dcm [])) fun d => match d with
    | .ref r => M.bind (loopD (turnD ev ke ve own tg env) r wk.len wk) fun _ => sealM r
    | _ => M.bad := by
  simp only [evE]
  rfl
theorem loopD_go {turn : D → M (Str × D)} {r m : Nat} {wk wk' : Wk} {h : Hh} {d : D} {γ : Type} {k : Unit → M γ} (e : wk.next h = some (some (d, wk'))) : M.bind (loopD turn r (m + 1) wk) k h = M.bind (turn d) (fun o => M.bind (M.bind (putM r o.1 o.2) fun _ => loopD turn r m wk') k) h := by
  rw [← bind_bind]
  have : loopD turn r (m + 1) wk h = M.bind (turn d) (fun o => M.bind (putM r o.1 o.2) fun _ => loopD turn r m wk') h := by
    rw [loopD]
    simp only [e] <;> rfl
  unfold M.bind at this ⊢
  rw [this]
def DcW (L : Lk) (p : Pn) (σ : L2.St) (env : Env) (turn : D → M (Str × D)) (J : L2.It) (A : Addr) (Q : VK) (W : Value → Option Addr → Hp → Prop) (i m : Nat) (H : Hp) : Prop :=
  ∃ ρ h wk r, Rep L ρ h H ∧ ERel L.K ρ H env σ ∧ Past p ρ H ∧ WkRel L.K ρ H wk J i ∧ ρ[r]? = some A ∧ res L (VR L) ρ H (M.bind (loopD turn r m wk) (fun _ => sealM r) h) Q W
/-- a pair of a key and its value -/
def KV2 (L : Lk) : List Addr → Hp → Str × D → V × V → Prop := fun ρ H a b => b.1 = .str a.1 ∧ VRel L.K ρ H a.2 b.2
/-- what is locked behind -/
def Lkd (Q : VK) : VK := fun v H' => ∃ d u, v = .ref d ∧ H' d = some u ∧ Mut (some u) ∧ ∀ od, Q v (upd H' d (.frz od u))
theorem dcomp_read (C : CxOk L Γ n ev p X) {scope : Scope} {tg : Expr} {ke ve : CE} {tg' : Tg} {it : It} {k : Nat} {W : WX} {σ : L2.St} {H : Hp} {Q : VK}
    (hg : cTg { Γ with sc := relS scope Γ.sc, pin := [], thk := none, xas := none, xal := none, lam := false, fnc := fun x => scope.names.lookup x == some .cell } k tg = some tg')
    (q : tM L p (VR L) (evE ev (.dcomp ke ve ((ownOf Γ.N scope).map (·.2)) tg' it)) W σ H Q) :
    tDc (tM L p (WR L) (evI ev it) W) (tG L ⟨[], p.ρ0, p.H0⟩ (asgT tg') (slotsT tg')) tYes (tM L ⟨[], p.ρ0, p.H0⟩ (VR L) (evE ev ke) (fun _ _ _ _ => False)) (tM L ⟨[], p.ρ0, p.H0⟩ (VR L) (evE ev ve) (fun _ _ _ _ => False)) ((ownOf Γ.N scope).map (·.2)) σ H (Lkd Q) := by
  have own := (own_of (Γ := Γ) (scope := scope) (k := k) k).1 hg
  have pn := q.1
  obtain ⟨_, ρ, env, h0, R, er, pa, r⟩ := q
  rw [dcomp_eq] at r
  refine tM_next (P := WR L) (P' := VR L) (m := evI ev it) (f := fun env wk => M.bind (alloc (.dcm [])) fun d => match d with
    | .ref r => M.bind (loopD (turnD ev ke ve ((ownOf Γ.N scope).map (·.2)) tg' env) r wk.len wk) fun _ => sealM r
    | _ => M.bad) pn R er pa r fun ρ1 H1 h1 wk J e1 R1 er1 pa1 rw1 r1 => ?_
  intro A hn
  have RA := R1.alloc (p := A) (o := .dcm []) (u := .dK []) hn (.dcm .nil)
  have eA : Ext ρ1 H1 (ρ1 ++ [A]) (upd H1 A (.dK [])) := ext_alloc hn
  have hr : (ρ1 ++ [A])[h1.length]? = some A := by
    rw [← R1.len]
    simp
  refine ⟨DcW L p σ env (turnD ev ke ve ((ownOf Γ.N scope).map (·.2)) tg' env) J A Q (fun c d H' => W c d σ H'), ⟨wk.len, ρ1 ++ [A], h1 ++ [.dcm []], wk, h1.length, RA, er1.mono eA, pa1.trans eA, rw1.mono eA, hr, ?_⟩, ?_⟩
  · exact res.later eA r1
  · rintro i m H2 ⟨ρ2, h2, wk2, r2, R2, er2, pa2, w2, hr2, q2⟩
    cases em : wk2.next h2 with
    | none =>
      cases m <;> (simp only [M.bind, loopD, em] at q2; exact q2.elim)
    | some o =>
      cases o with
      | none =>
        refine .inl ⟨wk_stop R2 w2 em, ?_⟩
        have q2 : res L (VR L) ρ2 H2 (sealM r2 h2) Q (fun c d H' => W c d σ H') := by
          cases m <;> (simp only [M.bind, loopD, em] at q2; exact q2)
        unfold sealM at q2
        split at q2
        · next kvs hx =>
          obtain ⟨vs, e3, r3⟩ := dcm_at R2 hr2 hx
          refine ⟨A, _, rfl, e3, trivial, fun od => ?_⟩
          have E : Ext ρ2 H2 ρ2 (upd H2 A (.frz od (.dK vs))) := ext_upd R2 hr2 hx
          exact q2 ρ2 _ (.ref A) E (R2.set hr2 hx (.dct r3)) (.ref hr2)
        · exact q2.elim
      | some y =>
        obtain ⟨d, wk3⟩ := y
        cases m with
        | zero =>
          simp only [M.bind, loopD, em] at q2
          exact q2.elim
        | succ m =>
          obtain ⟨go, yl⟩ := wk_go R2 w2 em
          refine .inr ⟨go, fun H' => DcW L p σ env (turnD ev ke ve ((ownOf Γ.N scope).map (·.2)) tg' env) J A Q (fun c d H' => W c d σ H') (i + 1) m H', fun H' z => ⟨m, Nat.lt_succ_self m, z⟩, fun x H' y => ?_⟩
          obtain ⟨R2', e2', rd, w3⟩ := yl x H' y
          have q2 := res.later e2' q2
          have er2 := er2.mono e2'
          have pa2 := pa2.trans e2'
          have hr2 := e2'.get hr2
          clear R2
          have R2 := R2'
          rw [loopD_go em] at q2
          have q4 := res.noX (W' := fun _ _ _ => False) (res.bind (P := KV2 L) q2)
          cases ea : asgT tg' d (wipeE env ((ownOf Γ.N scope).map (·.2))) with
          | none =>
            simp only [ea] at q4
            exact q4.elim
          | some env2 =>
            simp only [ea] at q4
            refine ⟨(fun _ h => by cases h), ρ2, wipeE env ((ownOf Γ.N scope).map (·.2)), d, env2, er2.wipe _, rd, ea, fun σ3 er3 _ off => ⟨wipe_eq own off, ?_⟩⟩
            unfold tYes
            dsimp only
            rw [if_pos rfl]
            refine ⟨(fun _ h => by cases h), ρ2, env2, h2, R2, er3, pa2, (res.bind (P := VR L) q4).mono fun yk H4 => ?_⟩
            rintro ⟨ρ4, h4, d4, e4, R4, rd4, q6⟩
            have rd4 : VRel L.K ρ4 H4 d4 yk := rd4
            cases rd4 with
            | str kx =>
              refine ⟨(fun _ h => by cases h), ρ4, env2, h4, R4, er3.mono e4, pa2.trans e4, (res.bind (P := VR L) q6).mono fun yv H5 => ?_⟩
              rintro ⟨ρ5, h5, d5, e5, R5, rd5, q7⟩
              obtain ⟨ρ6, h6, a, e6, R6, ra, q8⟩ := q7.ret (b := (V.str kx, yv)) R5 ⟨rfl, rd5⟩
              obtain ⟨a1, a2⟩ := a
              obtain ⟨ra1, ra2⟩ := ra
              simp only [V.str.injEq] at ra1
              subst ra1
              rw [bind_bind] at q8
              have q9 := res.bind (P := UR) q8
              simp only [putM] at q9
              split at q9
              · next kvs hx =>
                split at q9
                · next hz =>
                  have hr6 : ρ6[r2]? = some A := e6.get hr2
                  obtain ⟨vs, g1, g2⟩ := dcm_at R6 hr6 hx
                  refine ⟨vs, .inr kx, rfl, g1, by rw [← g2.length]; exact hz, ?_⟩
                  have e9 : Ext ρ6 H5 ρ6 (upd H5 A (.dK (putK vs (.inr kx) yv))) := ext_upd R6 hr6 hx
                  obtain ⟨ρ9, h9, _, e10, R9, _, qa⟩ := q9 ρ6 _ () e9 (R6.set hr6 hx (.dcm (g2.put ra2))) trivial
                  have e11 := e6.trans e10
                  exact ⟨ρ9, h9, wk3, r2, R9, er2.mono e11, pa2.trans e11, w3.mono e11, e11.get hr2, qa⟩
                · exact q9.elim
              · exact q9.elim
            | _ => exact q6.elim
theorem pe_dcompM (C : CxOk L Γ n ev p X) (hh : Γ.hot = false) {kx vx tg iter : Expr} {scope : Scope} {pos : Pos} {ke ve : CE} {tg' : Tg} {it : It} {k : Nat} {W : WX} (hb : blkC Γ.N Γ.sc scope (ownOf Γ.N scope) = true) (hs : noSet iter = true)
    (hi : PI X tg iter (tM L p (WR L) (evI ev it) W)) (hg : cTg { Γ with sc := relS scope Γ.sc, pin := [], thk := none, xas := none, xal := none, lam := false, fnc := fun x => scope.names.lookup x == some .cell } k tg = some tg')
    (hk : ∀ (s : Shared) (H : Hp) (A : Addr) (cl : List (Str × Addr)) (fp : List Addr), PE (X.blk s H scope (compEnvC scope cl A X.env) fp) kx (tM L ⟨[], p.ρ0, p.H0⟩ (VR L) (evE ev ke) (fun _ _ _ _ => False)))
    (he : ∀ (s : Shared) (H : Hp) (A : Addr) (cl : List (Str × Addr)) (fp : List Addr), PE (X.blk s H scope (compEnvC scope cl A X.env) fp) vx (tM L ⟨[], p.ρ0, p.H0⟩ (VR L) (evE ev ve) (fun _ _ _ _ => False))) :
    PE X (.DictComp kx vx [⟨tg, iter, [], 0⟩] scope pos) (tM L p (VR L) (evE ev (.dcomp ke ve ((ownOf Γ.N scope).map (·.2)) tg' it)) W) :=
  PE.imp (pe_frz (pe_dc (C.calm hh) (by rw [C.N]; exact C.nd) hi (by rw [C.N, C.sc]; exact blkOk_by hb) (fun s H A cl fp => (pg_tgts (blk_ok C hh) k).1 hg) (fun s H A cl fp => pts_nil) hk he (comp_fold hs _))) fun σ H Q q => dcomp_read C hg q
/-- name = {..} -/
theorem ps_dcompM (C : CxOk L Γ n ev p X) (hh : Γ.hot = false) {kx vx tg iter : Expr} {scope : Scope} {y : Str} {i : Nat} {py pos spos : Pos} {ke ve : CE} {tg' : Tg} {it : It} {k : Nat} {W : WX} (hb : blkC Γ.N Γ.sc scope (ownOf Γ.N scope) = true) (hs : noSet iter = true)
    (hi : PI X tg iter (tM L p (WR L) (evI ev it) W)) (hg : cTg { Γ with sc := relS scope Γ.sc, pin := [], thk := none, xas := none, xal := none, lam := false, fnc := fun x => scope.names.lookup x == some .cell } k tg = some tg')
    (hk : ∀ (s : Shared) (H : Hp) (A : Addr) (cl : List (Str × Addr)) (fp : List Addr), PE (X.blk s H scope (compEnvC scope cl A X.env) fp) kx (tM L ⟨[], p.ρ0, p.H0⟩ (VR L) (evE ev ke) (fun _ _ _ _ => False)))
    (he : ∀ (s : Shared) (H : Hp) (A : Addr) (cl : List (Str × Addr)) (fp : List Addr), PE (X.blk s H scope (compEnvC scope cl A X.env) fp) vx (tM L ⟨[], p.ρ0, p.H0⟩ (VR L) (evE ev ve) (fun _ _ _ _ => False)))
    (hy : X.N[i]? = some y) (hl : X.env.scope.names.lookup y = some .local) (hsw : swapsWith (.DictComp kx vx [⟨tg, iter, [], 0⟩] scope pos) (some (.Name y py)) spos.line X.env = pure true) :
    PS X (.Assign [.Name y py] (.DictComp kx vx [⟨tg, iter, [], 0⟩] scope pos) spos) (tAsg (tM L p (VR L) (evE ev (.dcomp ke ve ((ownOf Γ.N scope).map (·.2)) tg' it)) W) (gName i)) := by
  refine ⟨fun pins s σ H D I q => ?_⟩
  have hN : X.N.Nodup := by
    rw [C.N]
    exact C.nd
  rw [exec_Assign_Name_used _ _ _ _ hsw]
  refine wpAny_bind (wpAny_standAt (wpAny_bind ?_))
  show wpAny _ X.A (do
    let _ ← comprehension (.DictComp kx vx [⟨tg, iter, [], 0⟩] scope pos) scope X.env (firstIterPos [⟨tg, iter, [], 0⟩] pos) newDict false (eval iter X.env) (some (assign (.Name y py) X.env))) _ _ s
  have q : tM L p (VR L) (evE ev (.dcomp ke ve ((ownOf Γ.N scope).map (·.2)) tg' it)) W σ H (fun x H1 => gName i x σ H1 D.nx) := q
  refine wpAny_bind (thn (dc_core (use := some (assign (.Name y py) X.env)) (Qf := fun _ s' => SP X pins D .next s') (C.calm hh) hN I hi (by rw [C.N, C.sc]; exact blkOk_by hb) (fun s H A cl fp => (pg_tgts (blk_ok C hh) k).1 hg) (fun s H A cl fp => pts_nil) hk he (comp_fold hs _) (dcomp_read C hg q) fun M A s' m H' I' q' hn f => ?_) fun _ s' hq => wpAny_pure (wpAny_pure hq))
  show wpAny _ _ (assign (.Name y py) X.env (.ref M)) _ _ _
  obtain ⟨d, u, ed, hd, mu, q'⟩ := q'
  cases ed
  refine wpAny_assign_Name (store_ok2 (v := V.ref M) I' hN hy (.inl hl) rfl (fun s2 I2 ⟨a, sb, ha⟩ => ?_) (.inr hl))
  have f1 := f.2.1
  have f4 := f.2.2.2.2.1
  have hA : A ≠ a := by
    rcases ha with z | z
    · rw [z]
      exact f1
    · exact fun e => f4 y a z e.symm
  refine ⟨m, hn.sameBut sb hA, fun h3 sb3 => ?_⟩
  have I3 := I2.turned (h' := h3) (t' := s2.toks) (fun b o hb e => (sb3.2 b hb).trans e) f.1 f1 f.2.2.2.1 f4 f.2.2.2.2.2
  obtain ⟨od, I4⟩ := I3.lock hd mu
  exact ⟨_, _, I4, q' od⟩
end
end MX
namespace MX
open PySem PySem.Spec PyProof.Rows L2
section
variable {L : Lk} {Γ : Cn} {n : Nat} {ev : Ev} {p : Pn} {X : Cx}
/-- what is proved of an expression -/
def Snd (L : Lk) (ev : Ev) (p : Pn) (X : Cx) (W : WX) (e : Expr) (ce : CE) : Prop := PE X e (tM L p (VR L) (evE ev ce) W) ∧ PT X e (tM L p BR (fun env => M.bind (evE ev ce env) tru) W)
theorem Snd.of (C : CxOk L Γ n ev p X) {e : Expr} {ce : CE} {W : WX} (he : PE X e (tM L p (VR L) (evE ev ce) W)) (hp : ∀ whole, isTrue e X.env whole = (do let v ← whole; standAt e.pos; holding [v] (truthy v))) : Snd L ev p X W e ce := ⟨he, pt_plain C he hp⟩
theorem mark0 {op : CmpOp} {b : Expr} (h : noSet b = true) : behindInMarks op b = false := by
  cases b <;> first | rfl | cases h
theorem tCond_nil {Y : Cx} {q : Pn} : PTs Y [] (tM L q BR (condM ev .nil) (fun _ _ _ _ => False)) := ⟨fun pins s σ H Q I ⟨_, ρ, env, h0, R, er, pa, r⟩ => pts_nil.run pins s σ H Q I (r.ret R rfl)⟩
theorem tCond_one {Y : Cx} {q : Pn} {c : Expr} {cc : CE} (h : PT Y c (tM L q BR (fun env => M.bind (evE ev cc env) tru) (fun _ _ _ _ => False))) : PTs Y [c] (tM L q BR (condM ev (.cons cc .nil)) (fun _ _ _ _ => False)) := pts_one h
/-- the induction's hypothesis -/
def SndAt (L : Lk) (k : Nat) : Prop := ∀ (Γ : Cn) (n : Nat) (ev : Ev) (p : Pn) (X : Cx) (W : WX) (e : Expr) (ce : CE), CxOk L Γ n ev p X → Takes X W → cE k Γ e = some ce → Snd L ev p X W e ce
theorem takesN {X : Cx} : Takes X (fun _ _ _ _ => False) := fun _ _ x => by
  obtain ⟨_, _, _, _, _, _, _, _, _, _, _, _, _, _, _, _, z⟩ := x
  exact z.elim
theorem iter_ok {k : Nat} (ih : SndAt L k) {W : WX} {tg it : Expr} {it' : It} (C : CxOk L Γ n ev p X) (tk : Takes X W) (h : cIt (cE k Γ) Γ tg it = some it') : PI X tg it (tM L p (WR L) (evI ev it') W) := by
  have plain : ∀ {e : Expr}, (cE k Γ e).map It.seq = some it' → PI X tg e (tM L p (WR L) (evI ev it') W) := fun {e} h => by
    cases hc : cE k Γ e with
    | none =>
      rw [hc] at h
      cases h
    | some ce =>
      rw [hc] at h
      cases h
      exact pi_seqM C (ih _ _ _ _ _ _ _ _ C tk hc).1
  unfold cIt at h
  split at h
  · next x pos a b kws pos2 =>
    split at h
    · next hx =>
      split at h
      · next hb =>
        simp only [Bool.and_eq_true, decide_eq_true_eq] at hb
        simp only [Option.bind_eq_bind, Option.bind_eq_some_iff, Option.some.injEq] at h
        obtain ⟨st, h1, ca, h2, cb, h3, rfl⟩ := h
        exact pi_zipM C hx hb.2 h1 hb.1.1.1 hb.1.1.2 h2 h3 (ih _ _ _ _ _ _ _ _ C tk h2).1 (ih _ _ _ _ _ _ _ _ C tk h3).1
      · cases h
    · exact plain h
  · next x pos args pos2 nz =>
    split at h
    · next hx =>
      split at h
      · next hb =>
        simp only [Bool.and_eq_true, decide_eq_true_eq] at hb
        split at h
        · next a =>
          cases hc : cE k Γ a with
          | none =>
            rw [hc] at h
            cases h
          | some ca =>
            rw [hc] at h
            cases h
            exact pi_rngM C hx hb.1.1 hb.1.2 hc (ih _ _ _ _ _ _ _ _ C tk hc).1
        · cases h
      · cases h
    · split at h
      · next hx =>
        split at h
        · next hb =>
          simp only [Bool.and_eq_true, decide_eq_true_eq] at hb
          split at h
          · next a =>
            cases hc : cE k Γ a with
            | none =>
              rw [hc] at h
              cases h
            | some ca =>
              rw [hc] at h
              cases h
              exact pi_enmM C hx hb.2 hb.1.1.1 hb.1.1.2 hc (ih _ _ _ _ _ _ _ _ C tk hc).1
          · cases h
        · cases h
      · exact plain h
  · exact plain h
/-- a comprehension's parts -/
structure CompP (L : Lk) (Γ : Cn) (n k : Nat) (ev : Ev) (p : Pn) (X : Cx) (W : WX) (elt : Expr) (gs : List Comprehension) (scope : Scope) (ce : CE) : Prop where
  ex : ∃ (tg iter : Expr) (ifs : List Expr) (elt' : CE) (tg' : Tg) (it' : It) (c : CEs), gs = [⟨tg, iter, ifs, 0⟩] ∧ ce = .comp elt' ((ownOf Γ.N scope).map (·.2)) tg' it' c ∧ Γ.hot = false ∧ blkC Γ.N Γ.sc scope (ownOf Γ.N scope) = true ∧ noSet iter = true ∧
    PI X tg iter (tM L p (WR L) (evI ev it') W) ∧ cTg { Γ with sc := relS scope Γ.sc, pin := [], thk := none, xas := none, xal := none, lam := false, fnc := fun x => scope.names.lookup x == some .cell } k tg = some tg' ∧
    (∀ (s : Shared) (H : Hp) (A : Addr) (cl : List (Str × Addr)) (fp : List Addr), PTs (X.blk s H scope (compEnvC scope cl A X.env) fp) ifs (tM L ⟨[], p.ρ0, p.H0⟩ BR (condM ev c) (fun _ _ _ _ => False))) ∧
    ∀ (s : Shared) (H : Hp) (A : Addr) (cl : List (Str × Addr)) (fp : List Addr), PE (X.blk s H scope (compEnvC scope cl A X.env) fp) elt (tM L ⟨[], p.ρ0, p.H0⟩ (VR L) (evE ev elt') (fun _ _ _ _ => False))
theorem comp_parts {k : Nat} (ih : SndAt L k) {W : WX} {elt : Expr} {g0 : Comprehension} {scope : Scope} {pos : Pos} {ce : CE} (C : CxOk L Γ n ev p X) (tk : Takes X W) (h : cE (k + 1) Γ (.ListComp elt [g0] scope pos) = some ce) : CompP L Γ n k ev p X W elt [g0] scope ce := by
  simp only [cE] at h
  split at h
  · cases h
  · next hot =>
    split at h
    · next tg iter ifs hg0 =>
      cases hg0
      split at h
      · next hb =>
        simp only [Bool.and_eq_true] at hb
        simp only [Option.bind_eq_bind, Option.bind_eq_some_iff, Option.some.injEq] at h
        obtain ⟨it', h1, tg', h2, elt', h3, h⟩ := h
        have hh : Γ.hot = false := by simpa using hot
        have go : ∀ {c : CEs}, (∀ (s : Shared) (H : Hp) (A : Addr) (cl : List (Str × Addr)) (fp : List Addr), PTs (X.blk s H scope (compEnvC scope cl A X.env) fp) ifs (tM L ⟨[], p.ρ0, p.H0⟩ BR (condM ev c) (fun _ _ _ _ => False))) →
            CompP L Γ n k ev p X W elt [⟨tg, iter, ifs, 0⟩] scope (.comp elt' ((ownOf Γ.N scope).map (·.2)) tg' it' c) := fun {c} hc =>
          ⟨tg, iter, ifs, elt', tg', it', c, rfl, rfl, hh, hb.1, hb.2, iter_ok ih C tk h1, h2, hc, fun s H A cl fp => (ih _ _ _ _ _ _ _ _ (blk_ok C hh) takesN h3).1⟩
        split at h
        · cases h
          exact go fun s H A cl fp => tCond_nil
        · next cnd =>
          cases hc : cE k { Γ with sc := relS scope Γ.sc, pin := [], thk := none, xas := none, xal := none, lam := false, fnc := fun x => scope.names.lookup x == some .cell } cnd with
          | none =>
            rw [hc] at h
            cases h
          | some c' =>
            rw [hc] at h
            cases h
            exact go fun s H A cl fp => tCond_one (ih _ _ _ _ _ _ _ _ (blk_ok C hh) takesN hc).2
        · cases h
      · cases h
    · next hg0 => cases hg0
    · cases h
theorem cnd_ok {k : Nat} (ih : SndAt L k) {ifs : List Expr} {c : CEs} {Δ : Cn} {q : Pn} {Y : Cx} (C : CxOk L Δ n ev q Y) (h : cCnd (cE k Δ) ifs = some c) : PTs Y ifs (tM L q BR (fun env => condG (evEs ev c env)) (fun _ _ _ _ => False)) := by
  unfold cCnd at h
  split at h
  · cases h
    exact tCond_nil (ev := ev)
  · next cnd =>
    cases hc : cE k Δ cnd with
    | none =>
      rw [hc] at h
      cases h
    | some c' =>
      rw [hc] at h
      cases h
      rw [show (fun env => condG (evEs ev (.cons c' .nil) env)) = condM ev (.cons c' .nil) from funext fun env => condG_one env]
      exact tCond_one (ih _ _ _ _ _ _ _ _ C takesN hc).2
  · cases h
theorem comp2_ok {k : Nat} (ih : SndAt L k) {W : WX} {elt : Expr} {gs : List Comprehension} {scope : Scope} {pos : Pos} {ce : CE} (C : CxOk L Γ n ev p X) (tk : Takes X W) (hgs : ∀ g, gs ≠ [g]) (h : cE (k + 1) Γ (.ListComp elt gs scope pos) = some ce) : PE X (.ListComp elt gs scope pos) (tM L p (VR L) (evE ev ce) W) := by
  simp only [cE] at h
  split at h
  · cases h
  · next hot =>
    have hh : Γ.hot = false := by simpa using hot
    split at h
    · exact (hgs _ rfl).elim
    · next tg iter ifs tg1 iter1 ifs1 =>
      split at h
      · next hb =>
        simp only [Bool.and_eq_true] at hb
        simp only [Option.bind_eq_bind, Option.bind_eq_some_iff, Option.some.injEq] at h
        obtain ⟨it', h1, tg', h2, c, h3, it1', h4, tg1', h5, c1, h6, elt', h7, rfl⟩ := h
        exact pe_comp2M C hh hb.1 hb.2.1 hb.2.2 (iter_ok ih C tk h1) h2 h5 (fun s H A cl fp => cnd_ok ih (blk_ok C hh) h3) (fun s H A cl fp => iter_ok ih (blk_ok C hh) takesN h4) (fun s H A cl fp => cnd_ok ih (blk_ok C hh) h6)
          fun s H A cl fp => (ih _ _ _ _ _ _ _ _ (blk_ok C hh) takesN h7).1
      · cases h
    · cases h
theorem comp_ok {k : Nat} (ih : SndAt L k) {W : WX} {elt : Expr} {gs : List Comprehension} {scope : Scope} {pos : Pos} {ce : CE} (C : CxOk L Γ n ev p X) (tk : Takes X W) (h : cE (k + 1) Γ (.ListComp elt gs scope pos) = some ce) : Snd L ev p X W (.ListComp elt gs scope pos) ce := by
  by_cases hgs : ∃ g, gs = [g]
  · obtain ⟨g, rfl⟩ := hgs
    obtain ⟨tg, iter, ifs, elt', tg', it', c, eg, rfl, hh, h1, h2, h3, h4, h5, h6⟩ := (comp_parts ih C tk h).ex
    cases eg
    exact Snd.of C (pe_compM C hh h1 h2 h3 h4 h5 h6) (by intro _; rfl)
  · exact Snd.of C (comp2_ok ih C tk (fun g e => hgs ⟨g, e⟩) h) (by intro _; rfl)
theorem alias_ok {W : WX} {x : Str} {args : List Expr} {p1 pos : Pos} {ce : CE} (C : CxOk L Γ n ev p X) (h : aliasC Γ x args = some ce) : PE X (.Call (.Name x p1) args [] pos) (tM L p (VR L) (evE ev ce) W) := by
  unfold aliasC at h
  split at h
  · next nm y q1 r hx =>
    split at h
    · next hc =>
      obtain ⟨rfl, hg⟩ := hc
      split at h
      · split at h
        · next hh =>
          cases hp : posOf Γ.g.fns x with
          | none =>
            rw [hp] at h
            cases h
          | some i =>
            rw [hp] at h
            cases h
            exact pe_hclM C hx hg hp hh
        · cases h
      · split at h
        · next hc =>
          cases h
          exact pe_xisM C hx hc.1 hg hc.2.1 hc.2.2
        · cases h
      · cases h
    · cases h
  · cases h
theorem xfOf_some {g : Gb} {x f : Str} (h : xfOf g x = some (some f)) : ∃ c j, posOf g.cls x = some c ∧ g.ini[c]? = some (some j) ∧ g.fld[j]? = some f := by
  unfold xfOf at h
  split at h
  · next c hc =>
    split at h
    · cases h
    · next j hj =>
      cases hf : g.fld[j]? with
      | none =>
        rw [hf] at h
        cases h
      | some f' =>
        rw [hf] at h
        cases h
        exact ⟨c, j, hc, hj, hf⟩
    · cases h
  · cases h
theorem xfOf_none {g : Gb} {x : Str} (h : xfOf g x = some none) : ∃ c, posOf g.cls x = some c ∧ g.ini[c]? = some none := by
  unfold xfOf at h
  split at h
  · next c hc =>
    split at h
    · next hi => exact ⟨c, hc, hi⟩
    · next j hj =>
      cases hf : g.fld[j]? with
      | none =>
        rw [hf] at h
        cases h
      | some f' =>
        rw [hf] at h
        cases h
    · cases h
  · cases h
theorem dcomp_ok {k : Nat} (ih : SndAt L k) {W : WX} {kx vx : Expr} {gs : List Comprehension} {scope : Scope} {pos : Pos} {ce : CE} (C : CxOk L Γ n ev p X) (tk : Takes X W) (h : cE (k + 1) Γ (.DictComp kx vx gs scope pos) = some ce) :
    ∃ (tg iter : Expr) (ke ve : CE) (tg' : Tg) (it : It), gs = [⟨tg, iter, [], 0⟩] ∧ ce = .dcomp ke ve ((ownOf Γ.N scope).map (·.2)) tg' it ∧ Γ.hot = false ∧ blkC Γ.N Γ.sc scope (ownOf Γ.N scope) = true ∧ noSet iter = true ∧ PI X tg iter (tM L p (WR L) (evI ev it) W) ∧
      cTg { Γ with sc := relS scope Γ.sc, pin := [], thk := none, xas := none, xal := none, lam := false, fnc := fun x => scope.names.lookup x == some .cell } k tg = some tg' ∧
      (∀ (s : Shared) (H : Hp) (A : Addr) (cl : List (Str × Addr)) (fp : List Addr), PE (X.blk s H scope (compEnvC scope cl A X.env) fp) kx (tM L ⟨[], p.ρ0, p.H0⟩ (VR L) (evE ev ke) (fun _ _ _ _ => False))) ∧
      ∀ (s : Shared) (H : Hp) (A : Addr) (cl : List (Str × Addr)) (fp : List Addr), PE (X.blk s H scope (compEnvC scope cl A X.env) fp) vx (tM L ⟨[], p.ρ0, p.H0⟩ (VR L) (evE ev ve) (fun _ _ _ _ => False)) := by
  simp only [cE] at h
  split at h
  · cases h
  · next hot =>
    have hh : Γ.hot = false := by simpa using hot
    split at h
    · next tg iter =>
      split at h
      · next hb =>
        simp only [Bool.and_eq_true] at hb
        simp only [Option.bind_eq_bind, Option.bind_eq_some_iff, Option.some.injEq] at h
        obtain ⟨it', h1, tg', h2, k', h3, v', h4, rfl⟩ := h
        exact ⟨tg, iter, k', v', tg', it', rfl, rfl, hh, hb.1, hb.2, iter_ok ih C tk h1, h2, fun s H A cl fp => (ih _ _ _ _ _ _ _ _ (blk_ok C hh) takesN h3).1, fun s H A cl fp => (ih _ _ _ _ _ _ _ _ (blk_ok C hh) takesN h4).1⟩
      · cases h
    · cases h
theorem call_ok {k : Nat} (ih : SndAt L k) {W : WX} {f : Expr} {args : List Expr} {kws : List Keyword} {pos : Pos} {ce : CE} (C : CxOk L Γ n ev p X) (tk : Takes X W) (h : cE (k + 1) Γ (.Call f args kws pos) = some ce) : PE X (.Call f args kws pos) (tM L p (VR L) (evE ev ce) W) := by
  simp only [cE] at h
  have pa : ∀ {es : List Expr} {ces : CEs}, cL (cE k Γ) es = some ces → PA X es (tM L p (VRs L) (evEs ev ces) W) := fun {es ces} hc => pa_list (fun e ce he => (ih _ _ _ _ _ _ _ _ C tk he).1) hc
  split at h
  · split at h
    · next x p1 =>
      split at h
      · next ca hca =>
        cases h
        exact alias_ok C hca
      split at h
      · next ht =>
        split at h
        · cases h
          obtain ⟨m, h1, h2⟩ := C.thk x ht
          refine PE.imp (h2 X.pn X.xe W p1 pos tk) fun σ H Q q => ?_
          simp only [evE, h1] at q
          exact q
        · cases h
      · split at h
        · next hg =>
          split at h
          · next i hi =>
            split at h
            · cases h
            · next hot =>
              have hh : Γ.hot = false := by simpa using hot
              split at h
              · next params body scope lp =>
                split at h
                · next hb =>
                  simp only [Bool.and_eq_true, decide_eq_true_eq] at hb
                  simp only [Option.bind_eq_bind, Option.bind_eq_some_iff, Option.some.injEq] at h
                  obtain ⟨b, h1, rfl⟩ := h
                  exact pe_lamM C hh hb.1.1.1 tk hg hi hb.2 hb.1.1.2 hb.1.2 fun m Y W' CY tkY => (ih _ _ _ _ _ _ _ _ CY tkY h1).1
                · cases h
              · next e0 q0 _ =>
                cases he : cE k Γ e0 with
                | none =>
                  rw [he] at h
                  cases h
                | some ce0 =>
                  rw [he] at h
                  cases h
                  exact pe_callSM C tk hg hi hh (ih _ _ _ _ _ _ _ _ C tk he).1
              · cases hc : cL (cE k Γ) args with
                | none =>
                  rw [hc] at h
                  cases h
                | some ces =>
                  rw [hc] at h
                  cases h
                  exact pe_callM C tk hg hi hh hc (pa hc)
          · split at h
            · next hbl =>
              split at h
              · next hx =>
                split at h
                · next a t p2 _ =>
                  split at h
                  · next hb =>
                    simp only [Bool.and_eq_true] at hb
                    cases hc : cE k Γ a with
                    | none =>
                      rw [hc] at h
                      cases h
                    | some a' =>
                      rw [hc] at h
                      cases h
                      exact pe_isxM C hx hg hbl hb.2.1 hc (ih _ _ _ _ _ _ _ _ C tk hc).1
                  split at h
                  · next hb =>
                    simp only [Bool.and_eq_true, decide_eq_true_eq] at hb
                    simp only [Option.bind_eq_bind, Option.bind_eq_some_iff, Option.some.injEq] at h
                    obtain ⟨a', h1, ty, h2, rfl⟩ := h
                    exact pe_isiM C hx hg hbl hb.1.1 hb.1.2 h2 h1 (ih _ _ _ _ _ _ _ _ C tk h1).1
                  · cases h
                · cases h
              · split at h
                · next ra rb hrg =>
                  split at h
                  · cases h
                  · next hot =>
                    simp only [Option.bind_eq_bind, Option.bind_eq_some_iff, Option.some.injEq] at h
                    obtain ⟨a', h1, b', h2, rfl⟩ := h
                    exact pe_lrngM C (by simpa using hot) (fun e ce he => (ih _ _ _ _ _ _ _ _ C tk he).1) hg hbl hrg h1 h2
                · simp only [Option.bind_eq_bind, Option.bind_eq_some_iff] at h
                  obtain ⟨b, h1, h⟩ := h
                  split at h
                  · cases h
                  · next hot =>
                  simp only [Option.bind_eq_some_iff] at h
                  obtain ⟨ces, h2, h⟩ := h
                  split at h
                  · cases h
                  · next hne =>
                    cases h
                    cases args with
                    | nil =>
                      cases h2
                      exact absurd rfl hne
                    | cons e es =>
                      refine pe_btM C hg hbl h1 ?_ h2 (pa h2)
                      simp only [Bool.and_eq_true, Bool.not_eq_true', not_and, Bool.not_eq_false] at hot
                      cases hh : Γ.hot with
                      | false => exact .inl (C.calm hh)
                      | true => exact .inr (by simpa using hot hh)
            · split at h
              · next c hic =>
                split at h
                · cases h
                · next hot =>
                  simp only [Option.bind_eq_bind, Option.bind_eq_some_iff] at h
                  obtain ⟨ces, h2, h⟩ := h
                  split at h
                  · cases h
                  · next hne =>
                    cases h
                    cases args with
                    | nil =>
                      cases h2
                      exact absurd rfl hne
                    | cons e es => exact pe_makeM C (by simpa using hot) tk hg hic h2 (pa h2)
              · split at h
                · next e _ =>
                  split at h
                  · next hv =>
                    simp only [Bool.and_eq_true, Bool.not_eq_true'] at hv
                    split at h
                    · next f hf =>
                      obtain ⟨c, j, hc, hi, hj⟩ := xfOf_some hf
                      cases he : cE k Γ e with
                      | none =>
                        rw [he] at h
                        cases h
                      | some e' =>
                        rw [he] at h
                        cases h
                        exact pe_mkx1 C hv.2 hv.1 hg hc hi hj he (ih _ _ _ _ _ _ _ _ C tk he).1
                    · next hf =>
                      obtain ⟨c, hc, hi⟩ := xfOf_none hf
                      cases he : cE k Γ e with
                      | none =>
                        rw [he] at h
                        cases h
                      | some e' =>
                        rw [he] at h
                        cases h
                        exact pe_mkx0 C hv.1 hg hc hi he (ih _ _ _ _ _ _ _ _ C tk he).1
                    · cases h
                  · cases h
                · cases h
        · cases h
    · next o m apos =>
      split at h
      · cases h
      · next hot =>
        have hh : Γ.hot = false := by simpa using hot
        split at h
        · next hm =>
          split at h
          · next hb =>
            simp only [Bool.and_eq_true, decide_eq_true_eq] at hb
            simp only [Option.bind_eq_bind, Option.bind_eq_some_iff, Option.some.injEq] at h
            obtain ⟨o', h1, ces, h3, rfl⟩ := h
            exact pe_methM C hh tk hm h3 (ih _ _ _ _ _ _ _ _ C tk h1).1 (pa h3) hb.1.1 hb.1.2 hb.2
          · cases h
        split at h
        · next hb =>
          simp only [Bool.and_eq_true, decide_eq_true_eq] at hb
          simp only [Option.bind_eq_bind, Option.bind_eq_some_iff] at h
          obtain ⟨o', h1, b, h2, ces, h3, h⟩ := h
          split at h
          · cases h
          · next hne =>
            cases h
            cases args with
            | nil =>
              cases h3
              exact absurd rfl hne
            | cons e es => exact pe_bmM C h2 (C.calm hh) hb.1.1 hb.1.2 hb.2 h3 (ih _ _ _ _ _ _ _ _ C tk h1).1 (pa h3)
        · cases h
    · cases h
  · cases h
theorem iteB {α : Type} {b : Bool} {x : α} {y : α} (h : (if b = true then some x else none) = some y) : b = true ∧ x = y := by
  cases b with
  | true => exact ⟨rfl, by simpa using h⟩
  | false => simp at h
theorem snd_e : ∀ k : Nat, SndAt L k
  | 0, Γ, n, ev, p, X, W, e, ce, C, tk, h => by cases h
  | k + 1, Γ, n, ev, p, X, W, e, ce, C, tk, h => by
    have ih : SndAt L k := snd_e k
    have one : ∀ {e ce}, cE k Γ e = some ce → Snd L ev p X W e ce := fun {e ce} he => ih _ _ _ _ _ _ _ _ C tk he
    have pa : ∀ {es : List Expr} {ces : CEs}, cL (cE k Γ) es = some ces → PA X es (tM L p (VRs L) (evEs ev ces) W) := fun {es ces} hc => pa_list (fun e ce he => (one he).1) hc
    cases e with
    | Constant c j pos =>
      simp only [cE] at h
      exact Snd.of C (pe_con C h W) (by intro _; rfl)
    | Name x pos =>
      simp only [cE] at h
      exact Snd.of C (pe_name C h W) (by intro _; rfl)
    | BinOp a op b pos =>
      simp only [cE, Option.bind_eq_bind, Option.bind_eq_some_iff, Option.some.injEq] at h
      obtain ⟨a', h1, b', h2, o, h3, rfl⟩ := h
      exact Snd.of C (pe_bop C h3 (one h1).1 (one h2).1) (by intro _; rfl)
    | UnaryOp op a pos =>
      simp only [cE, Option.bind_eq_bind, Option.bind_eq_some_iff] at h
      obtain ⟨a', h1, h⟩ := h
      split at h
      · cases h
        exact ⟨pe_notM C (one h1).1, pt_notM C (one h1).2⟩
      · cases h
        exact Snd.of C (pe_negM (one h1).1) (by intro _; rfl)
      · cases h
    | BoolOp op es pos =>
      simp only [cE] at h
      split at h
      · cases h
      · next a =>
        refine ⟨pe_one (one h).1, ?_⟩
        cases op with
        | And => exact (pw_and1 (one h).2).pt
        | Or => exact (pw_or1 (one h).2).pt
      · next a b r =>
        simp only [Option.bind_eq_bind, Option.bind_eq_some_iff] at h
        obtain ⟨a', h1, b', h2, h⟩ := h
        cases op with
        | And =>
          cases h
          exact ⟨pe_andM C (one h1).1 (one h2).1, pt_andM C (one h1).2 (one h2).2⟩
        | Or =>
          cases h
          exact ⟨pe_orM C (one h1).1 (one h2).1, pt_orM C (one h1).2 (one h2).2⟩
    | Compare a ops bs pos =>
      simp only [cE] at h
      split at h
      · next op b =>
        split at h
        · split at h
          · next j q =>
            cases h1 : cE k Γ a with
            | none =>
              rw [h1] at h
              cases h
            | some a' =>
              rw [h1] at h
              cases h
              exact ⟨pe_isNM C (one h1).1, pt_isNM C (one h1).1⟩
          · next kb j q =>
            simp only [Option.map_eq_some_iff] at h
            obtain ⟨a', h1, rfl⟩ := h
            have hk : PE X (.Constant (.bool kb) j q) (tM L p (VR L) (evE ev (.con (.bl kb))) W) := pe_con C rfl W
            exact ⟨pe_cmpM C (op := .Is) (o := .isb) rfl (mark0 rfl) (one h1).1 hk, pt_cmpM C (op := .Is) (o := .isb) rfl (mark0 rfl) (one h1).1 hk⟩
          · cases h
        · split at h
          · next j q =>
            cases h1 : cE k Γ a with
            | none =>
              rw [h1] at h
              cases h
            | some a' =>
              rw [h1] at h
              cases h
              exact ⟨pe_notNM C (one h1).1, pt_notNM C (one h1).1⟩
          · next kb j q =>
            simp only [Option.map_eq_some_iff] at h
            obtain ⟨a', h1, rfl⟩ := h
            have hk : PE X (.Constant (.bool kb) j q) (tM L p (VR L) (evE ev (.con (.bl kb))) W) := pe_con C rfl W
            exact ⟨pe_cmpM C (op := .IsNot) (o := .nib) rfl (mark0 rfl) (one h1).1 hk, pt_cmpM C (op := .IsNot) (o := .nib) rfl (mark0 rfl) (one h1).1 hk⟩
          · cases h
        · split at h
          · next hs =>
            simp only [Option.bind_eq_bind, Option.bind_eq_some_iff, Option.some.injEq] at h
            obtain ⟨a', h1, b', h2, o, h3, rfl⟩ := h
            exact ⟨pe_cmpM C h3 (mark0 hs) (one h1).1 (one h2).1, pt_cmpM C h3 (mark0 hs) (one h1).1 (one h2).1⟩
          · cases h
      · next o1 o2 b c =>
        split at h
        · next hs =>
          simp only [Bool.and_eq_true] at hs
          simp only [Option.bind_eq_bind, Option.bind_eq_some_iff, Option.some.injEq] at h
          obtain ⟨a', h1, b', h2, c', h3, p1, h4, p2, h5, rfl⟩ := h
          exact ⟨pe_chainM C h4 h5 (mark0 hs.2) (one h1).1 (one h2).1 (one h3).1, pt_chainM C h4 h5 (mark0 hs.2) (one h1).1 (one h2).1 (one h3).1⟩
        · cases h
      · cases h
    | IfExp t a b pos =>
      simp only [cE, Option.bind_eq_bind, Option.bind_eq_some_iff, Option.some.injEq] at h
      obtain ⟨t', h1, a', h2, b', h3, rfl⟩ := h
      exact ⟨pe_ifM C (one h1).2 (one h2).1 (one h3).1, pt_ifM C (one h1).2 (one h2).2 (one h3).2⟩
    | Tuple es j pos =>
      simp only [cE] at h
      cases hc : cLS (cE k Γ) es with
      | none =>
        rw [hc] at h
        cases h
      | some ces =>
        rw [hc] at h
        cases h
        exact Snd.of C (pe_tupM (pa_listS C.x0.K (fun e ce he => (one he).1) hc)) (by intro _; rfl)
    | List es pos =>
      simp only [cE] at h
      cases hc : cLS (cE k Γ) es with
      | none =>
        rw [hc] at h
        cases h
      | some ces =>
        rw [hc] at h
        cases h
        exact Snd.of C (pe_lstM (pa_listS C.x0.K (fun e ce he => (one he).1) hc)) (by intro _; rfl)
    | Dict ks vs pos =>
      simp only [cE] at h
      split at h
      · cases h
        exact Snd.of C pe_edct (by intro _; rfl)
      · split at h
        · next k' v' hk hv =>
          cases h
          exact Snd.of C (pe_dispM hk hv) (by intro _; rfl)
        · cases h
      · cases h
    | Subscript a i pos =>
      simp only [cE] at h
      split at h
      · next j p1 p2 p3 =>
        cases hc : cE k Γ a with
        | none =>
          rw [hc] at h
          cases h
        | some ca =>
          rw [hc] at h
          cases h
          exact Snd.of C (pe_revM C (one hc).1) (by intro _; rfl)
      · next lo hi q hn =>
        simp only [Option.bind_eq_bind, Option.bind_eq_some_iff, Option.some.injEq] at h
        obtain ⟨a', g1, l, g2, u, g3, rfl⟩ := h
        exact Snd.of C (pe_slcM C (fun e ce he => (one he).1) g1 g2 g3) (by intro _; rfl)
      · cases h
      · next h1 h2 h3 =>
        simp only [Option.bind_eq_bind, Option.bind_eq_some_iff, Option.some.injEq] at h
        obtain ⟨a', g1, i', g2, rfl⟩ := h
        have hs : noSlice i = true := by
          cases i with
          | Slice l u s q => exact (h3 _ _ _ _ rfl).elim
          | _ => rfl
        exact Snd.of C (pe_idxM C hs (one g1).1 (one g2).1) (by intro _; rfl)
    | Attribute o f pos =>
      simp only [cE] at h
      split at h
      · next x p1 =>
        split at h
        · next y hy =>
          split at h
          · next hx =>
            subst hx
            cases hf : posOf Γ.g.fld f with
            | none =>
              rw [hf] at h
              cases h
            | some i =>
              rw [hf] at h
              cases h
              obtain ⟨z, h1, h2⟩ := C.xas x hy
              have e := C.gb.fld i f (posOf_get hf)
              subst e
              refine Snd.of C (PE.imp (h2 i W p1 pos) fun σ H Q q => ?_) (by intro _; rfl)
              simp only [evE, h1] at q
              exact q
          · cases h
        · split at h
          · next hf =>
            simp only [Option.map_eq_some_iff] at h
            obtain ⟨o', h1, rfl⟩ := h
            exact Snd.of C (pe_fldM C (by rfl) hf (one h1).1) (by intro _; rfl)
          · cases h
      · split at h
        · next hb =>
          simp only [Bool.and_eq_true, decide_eq_true_eq] at hb
          simp only [Option.map_eq_some_iff] at h
          obtain ⟨o', h1, rfl⟩ := h
          exact Snd.of C (pe_fldM C hb.1 hb.2 (one h1).1) (by intro _; rfl)
        · cases h
    | ListComp elt gs scope pos => exact comp_ok ih C tk h
    | DictComp kx vx gs scope pos =>
      obtain ⟨tg, iter, ke, ve, tg', it, rfl, rfl, hh, hb, hs, h1, h2, h3, h4⟩ := dcomp_ok ih C tk h
      exact Snd.of C (pe_dcompM C hh hb hs h1 h2 h3 h4) (by intro _; rfl)
    | Call f args kws pos => exact Snd.of C (call_ok ih C tk h) (by intro _; rfl)
    | _ =>
      simp only [cE] at h
      cases h
end
end MX
namespace MX
open PySem PySem.Spec PyProof.Rows L2
section
variable {L : Lk} {Γ : Cn} {n : Nat} {ev : Ev} {p : Pn} {X : Cx}
/-- what statements ask besides -/
structure StOk (Γ : Cn) (X : Cx) : Prop where
  stk : X.stack = X.env :: X.outer
  fr : X.env.frame = some X.env.locals
  po : Γ.hot = false → PassesOwn (model X.prog X.w) X.A X.env X.xe
theorem resS.imp {ρ : List Addr} {H : Hp} {r : SR} {D D' : Ends} {W : WX} (h : resS L p ρ H r D W) (h1 : ∀ σ H, D.nx σ H → D'.nx σ H) (h2 : ∀ v H, D.rt v H → D'.rt v H) (h3 : ∀ σ H, D.bk σ H → D'.bk σ H) (h4 : ∀ σ H, D.ct σ H → D'.ct σ H) : resS L p ρ H r D' W := by
  cases r with
  | nxt env h' => exact fun ρ' H' σ' e R er pn => h1 _ _ (h ρ' H' σ' e R er pn)
  | brk env h' => exact fun ρ' H' σ' e R er pn => h3 _ _ (h ρ' H' σ' e R er pn)
  | cnt env h' => exact fun ρ' H' σ' e R er pn => h4 _ _ (h ρ' H' σ' e R er pn)
  | ret d h' => exact fun ρ' H' v e R rv => h2 _ _ (h ρ' H' v e R rv)
  | exc x env h' => exact h
  | bad => exact h
/-- an expression within a statement -/
theorem lift_read {α β : Type} {P : List Addr → Hp → α → β → Prop} {m : M α} {env : Env} {k : α → Hh → SR} {h0 : Hh} {ρ : List Addr} {H : Hp} {σ : L2.St} {D : Ends} {W : WX} (pn : Pins p σ) (er : ERel L.K ρ H env σ) (r : resS L p ρ H (liftE m env k h0) D W) :
    res L P ρ H (m h0) (fun b H1 => ∃ ρ1 h1 a, Ext ρ H ρ1 H1 ∧ Rep L ρ1 h1 H1 ∧ P ρ1 H1 a b ∧ resS L p ρ1 H1 (k a h1) D W) (fun c d H' => W c d σ H') := by
  unfold liftE at r
  cases e : m h0 with
  | ok a h1 =>
    rw [e] at r
    exact fun ρ1 H1 b e1 R1 pb => ⟨ρ1, h1, a, e1, R1, pb, r.later e1⟩
  | exc x h1 =>
    rw [e] at r
    exact fun ρ1 H1 c d e1 R1 xr => r ρ1 H1 σ c d e1 R1 (er.mono e1) pn xr
  | bad =>
    rw [e] at r
    exact r
theorem tS_lift {α β : Type} {P : List Addr → Hp → α → β → Prop} {m : Env → M α} {k : Env → α → Hh → SR} {D : Ends} {W : WX} {σ : L2.St} {H : Hp} (q : tS L p (fun env => liftE (m env) env (k env)) W D σ H) :
    tM L p P m W σ H (fun b H1 => Pins p σ ∧ ∃ ρ1 env h1 a, Rep L ρ1 h1 H1 ∧ ERel L.K ρ1 H1 env σ ∧ Past p ρ1 H1 ∧ P ρ1 H1 a b ∧ resS L p ρ1 H1 (k env a h1) D W) := by
  obtain ⟨pn, ρ, env, h0, R, er, pa, r⟩ := q
  refine ⟨pn, ρ, env, h0, R, er, pa, (lift_read (P := P) pn er r).mono fun b H1 => ?_⟩
  rintro ⟨ρ1, h1, a, e, R1, pb, r1⟩
  exact ⟨pn, ρ1, env, h1, a, R1, er.mono e, pa.trans e, pb, r1⟩
theorem resS.nxt {ρ : List Addr} {H : Hp} {env : Env} {h : Hh} {D : Ends} {W : WX} {σ : L2.St} (r : resS L p ρ H (.nxt env h) D W) (R : Rep L ρ h H) (er : ERel L.K ρ H env σ) (pn : Pins p σ) : D.nx σ H := r ρ H σ (Ext.refl _ _) R er pn
theorem ps_retM {e : Expr} {ce : CE} {W : WX} {pos : Pos} (he : PE X e (tM L p (VR L) (evE ev ce) W)) : PS X (.Return (some e) pos) (tS L p (exS ev (.ret ce)) W) := by
  refine PS.imp (ps_ret he) fun D σ H q => ?_
  obtain ⟨pn, ρ, env, h0, R, er, pa, r⟩ := tS_lift (P := VR L) q
  exact ⟨pn, ρ, env, h0, R, er, pa, r.mono fun v H1 ⟨_, ρ1, env1, h1, d, R1, er1, pa1, rd, r1⟩ => r1 ρ1 H1 v (Ext.refl _ _) R1 rd⟩
theorem ps_exprM {e : Expr} {ce : CE} {W : WX} {pos : Pos} (he : PE X e (tM L p (VR L) (evE ev ce) W)) (hs : swapsWith e none pos.line X.env = pure false) : PS X (.Expr e pos) (tS L p (exS ev (.expr ce)) W) := by
  refine PS.imp (ps_expr he hs) fun D σ H q => ?_
  obtain ⟨pn, ρ, env, h0, R, er, pa, r⟩ := tS_lift (P := VR L) q
  exact ⟨pn, ρ, env, h0, R, er, pa, r.mono fun v H1 ⟨_, ρ1, env1, h1, d, R1, er1, pa1, rd, r1⟩ => r1.nxt R1 er1 pn⟩
theorem ps_ifM {c : Expr} {a b : List Stmt} {cc : CE} {ca cb : CSs} {W : WX} {pos : Pos} (hc : PT X c (tM L p BR (fun env => M.bind (evE ev cc env) tru) W)) (ha : PSs X a (tS L p (exSs ev ca) W)) (hb : PSs X b (tS L p (exSs ev cb) W)) :
    PS X (.If c a b pos) (tS L p (exS ev (.ifS cc ca cb)) W) := by
  refine PS.imp (ps_if hc ha hb) fun D σ H q => ?_
  obtain ⟨pn, ρ, env, h0, R, er, pa, r⟩ := tS_lift (P := BR) q
  refine ⟨pn, ρ, env, h0, R, er, pa, r.mono fun v H1 ⟨_, ρ1, env1, h1, d, R1, er1, pa1, rd, r1⟩ => ?_⟩
  cases rd
  cases v with
  | true => exact iteT ⟨pn, ρ1, env1, h1, R1, er1, pa1, r1⟩
  | false => exact iteF ⟨pn, ρ1, env1, h1, R1, er1, pa1, r1⟩
/-- a store behind a value -/
theorem asg_read {t : Tg} {ce : CE} {D : Ends} {W : WX} {σ : L2.St} {H : Hp} (q : tS L p (exS ev (.asg t ce)) W D σ H) : tAsg (tM L p (VR L) (evE ev ce) W) (tG L p (asgT t) (slotsT t)) D σ H := by
  obtain ⟨pn, ρ, env, h0, R, er, pa, r⟩ := tS_lift (P := VR L) q
  refine ⟨pn, ρ, env, h0, R, er, pa, r.mono fun v H1 ⟨_, ρ1, env1, h1, d, R1, er1, pa1, rd, r1⟩ => ?_⟩
  split at r1
  · next env2 e => exact ⟨pn, ρ1, env1, d, env2, er1, rd, e, fun σ2 er2 pn2 _ => r1 ρ1 H1 σ2 (Ext.refl _ _) R1 er2 pn2⟩
  · exact r1.elim
/-- [x, y] = [a, b] from the right -/
theorem par_read {i j : Nat} {ca cb : CE} {D : Ends} {W : WX} {σ : L2.St} {H : Hp} (hi : i ∉ p.pv.map (·.1)) (hj : j ∉ p.pv.map (·.1)) (q : tS L p (exS ev (.par [i, j] (.cons ca (.cons cb .nil)))) W D σ H) :
    tM L p (VRs L) (evEs ev (.cons ca (.cons cb .nil))) W σ H (fun vs H1 => ∃ v w, vs = [v, w] ∧ D.nx ((σ.set i (some v)).set j (some w)) H1) := by
  obtain ⟨pn, ρ, env, h0, R, er, pa, r⟩ := tS_lift (P := VRs L) q
  refine ⟨pn, ρ, env, h0, R, er, pa, r.mono fun vs H1 ⟨_, ρ1, env1, h1, ds, R1, er1, pa1, rds, r1⟩ => ?_⟩
  match ds, rds, r1 with
  | [], _, r1 => exact r1.elim
  | [_], _, r1 => exact r1.elim
  | _ :: _ :: _ :: _, _, r1 => exact r1.elim
  | [d, e], rds, r1 =>
    obtain ⟨v, w, rfl, rv, rw'⟩ := rels2 rds
    exact ⟨v, w, rfl, r1.nxt R1 ((er1.set rv i).set rw' j) ((pn.set hi).set hj)⟩
theorem set_comm {σ : L2.St} {i j : Nat} {x y : Option V} (h : i ≠ j) : (σ.set i x).set j y = (σ.set j y).set i x := List.set_comm _ _ h
/-- o[i] = e -/
def setTM (L : Lk) : TSet := fun o i v H Q => ∃ (W : Value → Option Addr → Hp → Prop) (ρ : List Addr) (h : Hh) (a b d : D), Rep L ρ h H ∧ VRel L.K ρ H a o ∧ VRel L.K ρ H b i ∧ VRel L.K ρ H d v ∧ res L UR ρ H (setD a b d h) (fun _ => Q) W
theorem pset_M (C : X0 L X) : PSet X (setTM L) := fun pins s σ H o i v ov iv u Q I ro ri rv ⟨W, ρ, h, a, b, d, R, ra, rb, rd, q⟩ => set_ok X pins s σ H o i v ov iv u Q W ρ h a b d C I ro ri rv R ra rb rd q
theorem asgN_read {i : Nat} {ce : CE} {D : Ends} {W : WX} {σ : L2.St} {H : Hp} (hi : i ∉ p.pv.map (·.1)) (q : tS L p (exS ev (.asg (.name i) ce)) W D σ H) : tAsg (tM L p (VR L) (evE ev ce) W) (gName i) D σ H := by
  obtain ⟨pn, ρ, env, h0, R, er, pa, r⟩ := tS_lift (P := VR L) q
  exact ⟨pn, ρ, env, h0, R, er, pa, r.mono fun v H1 ⟨_, ρ1, env1, h1, d, R1, er1, pa1, rd, r1⟩ => r1.nxt R1 (er1.set rd i) (pn.set hi)⟩
theorem sets_read {co ci ce : CE} {D : Ends} {W : WX} {σ : L2.St} {H : Hp} (q : tS L p (exS ev (.sets co ci ce)) W D σ H) :
    tAsg (tM L p (VR L) (evE ev ce) W) (gSub (tM L p (VR L) (evE ev co) W) (tM L p (VR L) (evE ev ci) W) (setTM L)) D σ H := by
  obtain ⟨pn, ρ, env, h0, R, er, pa, r⟩ := tS_lift (P := UR) q
  have pn := pn
  refine tM_next (P := VR L) (m := evE ev ce) (f := fun env v => M.bind (evE ev co env) fun x => M.bind (evE ev ci env) fun y => setD x y v) pn R er pa r fun ρ1 H1 h1 v vv e1 R1 er1 pa1 rv r1 => ?_
  refine tM_next (P := VR L) (m := evE ev co) (f := fun env x => M.bind (evE ev ci env) fun y => setD x y v) pn R1 er1 pa1 r1 fun ρ2 H2 h2 x vx e2 R2 er2 pa2 rx r2 => ?_
  refine tM_next (P := VR L) (m := evE ev ci) (f := fun env y => setD x y v) pn R2 er2 pa2 r2 fun ρ3 H3 h3 y vy e3 R3 er3 pa3 ry r3 => ?_
  refine ⟨fun c d H' => W c d σ H', ρ3, h3, x, y, v, R3, rx.mono e3, ry, (rv.mono e2).mono e3, r3.mono fun _ H4 ⟨_, ρ4, env4, h4, _, R4, er4, pa4, _, r4⟩ => r4.nxt R4 er4 pn⟩
/-! ### loops -/
theorem loopF_none {turn : D → Env → Hh → SR} {m : Nat} {wk : Wk} {env : Env} {h : Hh} (e : wk.next h = none) : loopF turn m wk env h = .bad := by
  rw [loopF.eq_def]
  simp only [e]
theorem loopF_stop {turn : D → Env → Hh → SR} {m : Nat} {wk : Wk} {env : Env} {h : Hh} (e : wk.next h = some none) : loopF turn m wk env h = .nxt env h := by
  rw [loopF.eq_def]
  simp only [e]
theorem loopF_zero {turn : D → Env → Hh → SR} {wk wk' : Wk} {d : D} {env : Env} {h : Hh} (e : wk.next h = some (some (d, wk'))) : loopF turn 0 wk env h = .bad := by
  rw [loopF.eq_def]
  simp only [e]
theorem loopF_go {turn : D → Env → Hh → SR} {m : Nat} {wk wk' : Wk} {d : D} {env : Env} {h : Hh} (e : wk.next h = some (some (d, wk'))) : loopF turn (m + 1) wk env h = match turn d env h with
        | .nxt env' h' => loopF turn m wk' env' h'
        | .cnt env' h' => loopF turn m wk' env' h'
        | .brk env' h' => .nxt env' h'
        | r => r := by
  rw [loopF.eq_def]
  simp only [e] <;> rfl
def ForW (L : Lk) (p : Pn) (turn : D → Env → Hh → SR) (J : L2.It) (D : Ends) (W : WX) (i m : Nat) (σ : L2.St) (H : Hp) : Prop :=
  Pins p σ ∧ ∃ ρ env h wk, Rep L ρ h H ∧ ERel L.K ρ H env σ ∧ Past p ρ H ∧ WkRel L.K ρ H wk J i ∧ resS L p ρ H (loopF turn m wk env h) D W
theorem ps_forM {tg it : Expr} {it' : It} {t : Tg} {body : List Stmt} {cb : CSs} {W : WX} {pos : Pos} (po : PassesOwn (model X.prog X.w) X.A X.env X.xe) (hc : X.calm = true) (hs : noSet it = true) (hi : PI X tg it (tM L p (WR L) (evI ev it') W)) (hg : PG X tg (tG L p (asgT t) (slotsT t)))
    (hb : PSs X body (tS L p (exSs ev cb) W)) : PS X (.For tg it body [] pos) (tS L p (exS ev (.forS t it' cb)) W) := by
  refine PS.imp (ps_for po hc hi hg hb (fun x => by cases it <;> first | rfl | cases hs)) fun D σ H q => ?_
  obtain ⟨pn, ρ, env, h0, R, er, pa, r⟩ := tS_lift (P := WR L) q
  refine ⟨pn, ρ, env, h0, R, er, pa, r.mono fun J H1 ⟨_, ρ1, env1, h1, wk, R1, er1, pa1, rw1, r1⟩ => ?_⟩
  refine ⟨ForW L p (fun d env h => match asgT t d env with | some env' => exSs ev cb env' h | none => .bad) J D W, ⟨wk.len, pn, ρ1, env1, h1, wk, R1, er1, pa1, rw1, r1⟩, ?_⟩
  rintro i m σ2 H2 ⟨pn2, ρ2, env2, h2, wk2, R2, er2, pa2, w2, q2⟩
  cases em : wk2.next h2 with
  | none =>
    rw [loopF_none em] at q2
    exact q2.elim
  | some o =>
    cases o with
    | none =>
      refine .inl ⟨wk_stop R2 w2 em, ?_⟩
      rw [loopF_stop em] at q2
      exact q2.nxt R2 er2 pn2
    | some y =>
      obtain ⟨d, wk3⟩ := y
      cases m with
      | zero =>
        rw [loopF_zero em] at q2
        exact q2.elim
      | succ m =>
        obtain ⟨go, yl⟩ := wk_go R2 w2 em
        refine .inr ⟨go, ForW L p (fun d env h => match asgT t d env with | some env' => exSs ev cb env' h | none => .bad) J D W (i + 1) m, fun σ' H' z => ⟨m, Nat.lt_succ_self m, z⟩, fun x H' y => ?_⟩
        obtain ⟨R2', e2', rd, w3⟩ := yl x H' y
        have q2 := resS.later e2' q2
        have er2 := er2.mono e2'
        have pa2 := pa2.trans e2'
        clear R2
        have R2 := R2'
        rw [loopF_go em] at q2
        cases ea : asgT t d env2 with
        | none =>
          rw [ea] at q2
          exact q2.elim
        | some env3 =>
          rw [ea] at q2
          refine ⟨pn2, ρ2, env2, d, env3, er2, rd, ea, fun σ3 er3 pn3 _ => ⟨pn3, ρ2, env3, h2, R2, er3, pa2, ?_⟩⟩
          cases e6 : exSs ev cb env3 h2 with
          | nxt e h' =>
            simp only [e6] at q2
            exact fun ρ4 H4 σ4 e4 R4 er4 pn4 => ⟨pn4, ρ4, e, h', wk3, R4, er4, pa2.trans e4, w3.mono e4, q2.later e4⟩
          | cnt e h' =>
            simp only [e6] at q2
            exact fun ρ4 H4 σ4 e4 R4 er4 pn4 => ⟨pn4, ρ4, e, h', wk3, R4, er4, pa2.trans e4, w3.mono e4, q2.later e4⟩
          | brk e h' =>
            simp only [e6] at q2
            exact q2
          | ret v h' =>
            simp only [e6] at q2
            exact q2
          | exc x e h' =>
            simp only [e6] at q2
            exact q2
          | bad =>
            simp only [e6] at q2
            exact q2
def WhW (L : Lk) (p : Pn) (c : Env → M Bool) (turn : Env → Hh → SR) (D : Ends) (W : WX) (m : Nat) (σ : L2.St) (H : Hp) : Prop :=
  Pins p σ ∧ ∃ ρ env h, Rep L ρ h H ∧ ERel L.K ρ H env σ ∧ Past p ρ H ∧ resS L p ρ H (loopW c turn m env h) D W
theorem ps_whileM {c : Expr} {body : List Stmt} {cc : CE} {cb : CSs} {W : WX} {pos : Pos} (po : PassesOwn (model X.prog X.w) X.A X.env X.xe) (hc : PT X c (tM L p BR (fun env => M.bind (evE ev cc env) tru) W)) (hb : PSs X body (tS L p (exSs ev cb) W)) :
    PS X (.While c body [] pos) (tS L p (exS ev (.whileS cc cb)) W) := by
  refine PS.imp (ps_while po hc hb) fun D σ H q => ?_
  obtain ⟨pn, ρ, env, h0, R, er, pa, r⟩ := q
  refine ⟨WhW L p (fun env => M.bind (evE ev cc env) tru) (fun env h => exSs ev cb env h) D W, ⟨ev.pg.W, pn, ρ, env, h0, R, er, pa, r⟩, ?_⟩
  rintro m σ2 H2 ⟨pn2, ρ2, env2, h2, R2, er2, pa2, q2⟩
  cases m with
  | zero => exact q2.elim
  | succ m =>
    rw [loopW] at q2
    refine ⟨pn2, ρ2, env2, h2, R2, er2, pa2, (lift_read (P := BR) pn2 er2 q2).mono fun b H3 => ?_⟩
    rintro ⟨ρ3, h3, b', e3, R3, rfl, q3⟩
    cases b' with
    | false => exact iteF (q3.nxt R3 (er2.mono e3) pn2)
    | true =>
      refine iteT ⟨WhW L p (fun env => M.bind (evE ev cc env) tru) (fun env h => exSs ev cb env h) D W m, fun σ' H' z => ⟨m, Nat.lt_succ_self m, z⟩, pn2, ρ3, env2, h3, R3, er2.mono e3, pa2.trans e3, ?_⟩
      cases e6 : exSs ev cb env2 h3 with
      | nxt e h' =>
        simp only [e6] at q3
        exact fun ρ4 H4 σ4 e4 R4 er4 pn4 => ⟨pn4, ρ4, e, h', R4, er4, (pa2.trans e3).trans e4, q3.later e4⟩
      | cnt e h' =>
        simp only [e6] at q3
        exact fun ρ4 H4 σ4 e4 R4 er4 pn4 => ⟨pn4, ρ4, e, h', R4, er4, (pa2.trans e3).trans e4, q3.later e4⟩
      | brk e h' =>
        simp only [e6] at q3
        exact q3
      | ret v h' =>
        simp only [e6] at q3
        exact q3
      | exc x e h' =>
        simp only [e6] at q3
        exact q3
      | bad =>
        simp only [e6] at q3
        exact q3
end
end MX
namespace MX
open PySem PySem.Spec PyProof.Rows L2
section
variable {L : Lk} {Γ : Cn} {n : Nat} {ev : Ev} {p : Pn} {X : Cx}
/-! ### raise -/
theorem ps_raiseMM (C : CxOk L Γ n ev p X) (hh : Γ.hot = false) {x m : Str} {c j : Nat} {W : WX} {p1 p2 p3 pos : Pos} (tk : Takes X W) (hg : globB Γ.sc x = true) (hc : posOf Γ.g.cls x = some c) (hi : Γ.g.ini[c]? = some none) :
    PS X (.Raise (some (.Call (.Name x p1) [.Constant (.str m) j p2] [] p3)) none pos) (tS L p (exS ev (.raiseM c)) W) := by
  obtain ⟨c1, c2⟩ := C.gb.cls x c hc
  obtain ⟨B, newId, initId, bmB, F, q1, q2, q3, q4⟩ := C.gb.exo c c1 hi
  obtain ⟨g1, g2, _, _⟩ := gl_of C hg
  refine PS.imp (ps_raise (C.calm hh) tk (pmk_own F (C := L.clA c) (by rw [C.x0.K]; exact q1) (by rw [C.x0.mg]; exact c2) (by rw [C.x0.K]; exact q2) (raises_own (by rw [C.x0.K]; exact q3) (by rw [C.x0.K]; exact q4)) g1 g2)) fun D σ H ⟨pn, ρ, env, h0, R, er, pa, r⟩ => ?_
  exact r ρ H σ _ none (Ext.refl _ _) R er pn ⟨c1, rfl, (fun f d e => by cases e), .inl rfl⟩
theorem ps_raiseIM (C : CxOk L Γ n ev p X) (hh : Γ.hot = false) {x : Str} {e : Expr} {ce : CE} {k c f : Nat} {W : WX} {p1 p3 pos : Pos} (tk : Takes X W) (hg : globB Γ.sc x = true) (hc : posOf Γ.g.cls x = some c) (hi : Γ.g.ini[c]? = some (some f)) (hce : cE k Γ e = some ce)
    (he : PE X e (tM L p (VR L) (evE ev ce) W)) : PS X (.Raise (some (.Call (.Name x p1) [e] [] p3)) none pos) (tS L p (exS ev (.raiseI c f ce)) W) := by
  obtain ⟨c1, c2⟩ := C.gb.cls x c hc
  obtain ⟨T, xf, no⟩ := C.gb.exi c f c1 hi
  obtain ⟨g1, g2, _, _⟩ := gl_of C hg
  match n, C with
  | 0, C =>
    refine ⟨fun pins s σ H D I ⟨_, ρ, env, h0, _, _, _, r⟩ => ?_⟩
    have hl : ev.l = [] := C.lev
    simp only [exS, hl] at r
    exact r.elim
  | 1, C =>
    refine ⟨fun pins s σ H D I ⟨_, ρ, env, h0, _, _, _, r⟩ => ?_⟩
    have hl : ev.l = [mkCl L.pg []] := C.lev
    simp only [exS, hl] at r
    exact r.elim
  | m + 2, C =>
    refine PS.imp (ps_raise (C.calm hh) tk (pmk_ini (k := m) (C := L.clA c) (f := L.fld f) (by rw [C.x0.K]; exact T) (C.room hh) g1 (by rw [C.x0.mg]; exact c2) he g2 (fun es => star_of hce es _))) fun D σ H q => ?_
    have q : tS L p (fun env => liftE (evE ev ce env) env fun d h => .exc ⟨c, [(f, d)]⟩ env h) W D σ H := by
      have hl : ev.l = mkCl L.pg (tabs L.pg (m + 1)) :: mkCl L.pg (tabs L.pg m) :: tabs L.pg m := C.lev
      obtain ⟨pn, ρ, env, h0, R, er, pa, r⟩ := q
      simp only [exS, hl] at r
      exact ⟨pn, ρ, env, h0, R, er, pa, r⟩
    obtain ⟨pn, ρ, env, h0, R, er, pa, r⟩ := tS_lift (P := VR L) q
    refine ⟨pn, ρ, env, h0, R, er, pa, r.mono fun v H1 ⟨_, ρ1, env1, h1, d, R1, er1, pa1, rd, r1⟩ dx hn => ?_⟩
    have e1 : Ext ρ1 H1 ρ1 (upd H1 dx (.xd [(L.fld f, v)])) := ext_new hn
    refine r1 ρ1 _ σ _ (some dx) e1 (R1.side hn) (er1.mono e1) pn ⟨c1, rfl, (fun f' d' e => ?_), .inr ⟨dx, _, rfl, upd_same⟩⟩
    simp only [List.lookup] at e
    split at e
    · next hf =>
      cases e
      have : f' = f := by simpa using hf
      subst this
      refine ⟨xf, no, dx, _, v, rfl, upd_same, ?_, rd.mono e1⟩
      simp [List.lookup]
    · cases e
/-! ### try -/
/-- an exception of the body, caught -/
structure Caught (X : Cx) (pins : List (Addr × Obj)) (B : Heap) (sI s3 : Shared) (a : Addr) (cls : Value) (d : Option Addr) (σ : L2.St) (H : Hp) : Prop where
  J : Inv X pins σ H sI
  nb : ∀ b o, sI.heap.get? b = some o → b ∉ frs X.stack → B.get? b = some o
  up : sI.heap.UpToSlots s3.heap
  fly : PySem.HandSPX.FlyingZ B (X.env :: X.outer) a (Zc cls d) s3.heap
  na : H a = none
  os : s3.os = sI.os
  ag : AllBare s3.gens
  nL : a ≠ X.env.locals
  nF : a ∉ X.fs
/-- the clauses, by what they make of a caught exception -/
def PHs (X : Cx) (hds : List ExceptHandler) (t : Ends → Value → Option Addr → L2.St → Hp → Prop) : Prop :=
  ∀ (pins : List (Addr × Obj)) (B : Heap) (sI s3 : Shared) (a : Addr) (cls : Value) (d : Option Addr) (σ : L2.St) (H : Hp) (D : Ends), Caught X pins B sI s3 a cls d σ H → t D cls d σ H →
    wpAny (model X.prog X.w) X.A (handleBy (.ref a) X.env hds) (SP X pins D) X.xe s3
theorem ps_tryG {body : List Stmt} {h0 : ExceptHandler} {hds : List ExceptHandler} {pos : Pos} {tb : WX → TS} {th : Ends → Value → Option Addr → L2.St → Hp → Prop} (S : StOk Γ X)
    (hb : ∀ (W : WX) (pn : List (Addr × Obj)) (xe : Value → Shared → Prop), Takes (X.tr pn xe) W → PassesOwn (model X.prog X.w) X.A X.env xe → PSs (X.tr pn xe) body (tb W))
    (hh : PHs X (h0 :: hds) th) : PS X (.Try body (h0 :: hds) [] [] pos) (fun D σ H => tb (fun cls d σ H => th D cls d σ H) D σ H) := by
  refine ⟨fun pins s σ H D I q => ?_⟩
  have ok := I.ok
  have frm : X.A.frames = some (X.env :: X.outer) := by rw [ok.frames, S.stk]
  have look : Takes (X.tr (X.pn ++ pins) (fun e s₁ => wpAny (model X.prog X.w) X.A (noteFrame e X.env) (fun _ s₂ => wpAny (model X.prog X.w) X.A (setFlight e none) (fun _ s₃ =>
      wpAny (model X.prog X.w) X.A (handleBy e X.env (h0 :: hds)) (SP X pins D) X.xe s₃) X.xe s₂) X.xe s₁)) (fun cls d σ H => th D cls d σ H) := by
    rintro u s' ⟨a, B, sI, pins', σ', H', cls, d, rfl, J', nb, up, sky, na, os, ag, w⟩
    have J : Inv X pins σ' H' sI := J'.ofTry ok
    have sky' : Sky B (X.env :: X.outer) a (Zc cls d) X.env.locals s'.heap := by
      rw [← S.stk]
      exact sky
    refine Sky.land Zc.steady frm S.fr sky' fun h3 fl up3 => ?_
    obtain ⟨oe, vs, he, hz, hd⟩ := fl.there
    have out : a ∉ frs (X.env :: X.outer) := fun hm => by
      obtain ⟨_, o', e', hnf⟩ := fl.2.2.1.mem hm
      rw [he] at e'
      cases e'
      exact hnf _ hd
    refine hh pins B sI { s' with heap := h3 } a cls d σ' H' D ⟨J, nb, up.trans up3, fl, na, os, ag, fun z => ?_, fun hm => ?_⟩ w
    · exact out (List.mem_filterMap.mpr ⟨X.env, List.mem_cons_self, by rw [S.fr, z]⟩)
    · obtain ⟨e, he, q⟩ := List.mem_filterMap.mp hm
      exact out (List.mem_filterMap.mpr ⟨e, List.mem_cons_of_mem _ he, q⟩)
  refine wpAny_Try_except (wpAny_mono ((hb _ (X.pn ++ pins) _ look PassesOwn.looking).run [] s σ H D (I.toTry _) q) (fun f s1 x => ?_) (fun e s1 x => x))
  match f, x with
  | .next, ⟨σ', H', J', z⟩ => exact wpAny_execs_nil ⟨σ', H', J'.ofTry ok, z⟩
  | .brk, ⟨σ', H', J', z⟩ => exact ⟨σ', H', J'.ofTry ok, z⟩
  | .cont, ⟨σ', H', J', z⟩ => exact ⟨σ', H', J'.ofTry ok, z⟩
  | .ret u, ⟨v, σ', H', J', r, z⟩ => exact ⟨v, σ', H', J'.ofTry ok, r, z⟩
/-- no clause is left -/
theorem phs_nil (S : StOk Γ X) {W : WX} (tk : Takes X W) : PHs X [] (fun _ cls d σ H => W cls d σ H) := by
  intro pins B sI s3 a cls d σ H D c w
  refine wpAny_handleBy_nil ?_
  obtain ⟨k1, k2, k3, oe, vs, T, oT, ts', he, hz, hd, h1, hr⟩ := id c.fly
  have up : wpAny (model X.prog X.w) X.A (setFlight (.ref a) X.env.frame) (fun _ s4 => wpAny (model X.prog X.w) X.A (throw (.ref a) : Sem Flow) (SP X pins D) X.xe s4) X.xe s3 := by
    rw [S.fr]
    refine PySem.HandSPX.setFlight_upZ c.fly fun h4 hh4 up4 => wpAny_throw (tk _ _ ?_)
    exact ⟨a, B, sI, pins, σ, H, cls, d, rfl, c.J, c.nb, c.up.trans up4, .inr (.inr (by rw [S.stk]; exact hh4)), c.na, c.os, c.ag, w⟩
  unfold PySem.passOn
  refine wpAny_bind (wpAny_field he hd h1 ?_)
  rw [if_neg (show ¬ ((Value.ref T == Value.none) = true) from by simp)]
  first
    | exact wpAny_bind (wpAny_pure (wpAny_bind up))
    | exact wpAny_bind up
/-- the test of a clause -/
theorem caught_test {pins : List (Addr × Obj)} {B : Heap} {sI s3 : Shared} {a : Addr} {cls : Value} {d : Option Addr} {σ : L2.St} {H : Hp} {x : Str} {q1 : Pos} {C : Value} {E : Value → Shared → Prop} {Q : Value → Shared → Prop} (c : Caught X pins B sI s3 a cls d σ H) (hg : Gl X x) (hm : X.mg x = some C)
    (hdb : (x == ("__debug__" : Str)) = false) (q : Q C s3) : wpAny (model X.prog X.w) (X.A.mark (some (.ref a))) (eval (.Name x q1) X.env) Q E s3 := by
  obtain ⟨oe, vs, he, hz, hd⟩ := c.fly.there
  have J3 : Inv X pins σ H { s3 with heap := s3.heap } := c.J.landed c.nb c.fly.1 c.up c.os c.ag
  exact ld_glob (X := X.suite a ((a, oe) :: (X.pn ++ pins))) (J3.suite he hd c.na c.nL c.nF) hg hm q hdb
theorem phs_cons {x : Str} {q1 pos : Pos} {C : Value} {b0 : Stmt} {suite : List Stmt} {hds : List ExceptHandler} {ts : Addr → Value → Option Addr → TS} {th : Ends → Value → Option Addr → L2.St → Hp → Prop} (hg : Gl X x) (hm : X.mg x = some C) (hdb : (x == ("__debug__" : Str)) = false)
    (hsu : ∀ (a : Addr) (oe : Obj) (cls : Value) (d : Option Addr) (pn : List (Addr × Obj)), Zc cls d oe → (∃ vs, oe.data = .fields vs) → PSs (X.suite a ((a, oe) :: pn)) (b0 :: suite) (ts a cls d)) (r : PHs X hds th) :
    PHs X (.ExceptHandler (some (.Name x q1)) none (b0 :: suite) pos :: hds) (fun D cls d σ H => ∃ b, PySem.W.exmOne X.K cls C = some b ∧ (b = true → ∀ a, H a = none → ts a cls d D σ H) ∧ (b = false → th D cls d σ H)) := by
  intro pins B sI s3 a cls d σ H D c ⟨b, e, yes, no⟩
  obtain ⟨oe, vs, he, hz, hd⟩ := c.fly.there
  have J3 : Inv X pins σ H { s3 with heap := s3.heap } := c.J.landed c.nb c.fly.1 c.up c.os c.ag
  refine wpAny_handleBy_cons (codeAny_handlers_test ?_) (by intro q; cases q)
  have LT : PySem.W.Looks (model X.prog X.w) s3.heap (typeOf (.ref a)) cls := fun A Q E s k q => wpAny_typeOf_ref (k _ _ he) (by rw [hz.1]; exact q)
  refine caught_test c hg hm hdb ((PySem.W.exm_one (M := model X.prog X.w) J3.kIn LT e).here ?_)
  cases b with
  | true =>
    refine codeAny_handlers_suite (PySem.HandSPX.lands_againZ c.fly fun h4 fl4 up4 => ?_)
    have J4 : Inv X pins σ H { s3 with heap := h4 } := c.J.landed c.nb fl4.1 (c.up.trans up4) c.os c.ag
    obtain ⟨oe4, vs4, he4, hz4, hd4⟩ := fl4.there
    have ok := c.J.ok
    refine wpAny_mono ((hsu a oe4 cls d (X.pn ++ pins) hz4 ⟨_, hd4⟩).run [] _ _ H _ (J4.suite he4 hd4 c.na c.nL c.nF) (yes rfl a c.na)) (fun f s6 z => ?_) (fun _ _ z => False.elim z)
    match f, z with
    | .next, ⟨σ6, H6, S6, z⟩ => exact ⟨_, _, S6.unsuite ok, z⟩
    | .brk, ⟨σ6, H6, S6, z⟩ => exact ⟨_, _, S6.unsuite ok, z⟩
    | .cont, ⟨σ6, H6, S6, z⟩ => exact ⟨_, _, S6.unsuite ok, z⟩
    | .ret u, ⟨v6, σ6, H6, S6, r6, z⟩ => exact ⟨_, _, _, S6.unsuite ok, r6, z⟩
  | false => exact r pins B sI s3 a cls d σ H D c (no rfl)
theorem phs_as {x nm : Str} {i : Nat} {q1 pos : Pos} {C : Value} {b0 : Stmt} {suite : List Stmt} {hds : List ExceptHandler} {ts : Addr → Value → Option Addr → TS} {th : Ends → Value → Option Addr → L2.St → Hp → Prop} (hg : Gl X x) (hm : X.mg x = some C) (hdb : (x == ("__debug__" : Str)) = false)
    (nd : X.N.Nodup) (hi : X.N[i]? = some nm) (hl : X.env.kindOf nm = some .local)
    (hsu : ∀ (a : Addr) (oe : Obj) (cls : Value) (d : Option Addr) (pn : List (Addr × Obj)), Zc cls d oe → (∃ vs, oe.data = .fields vs) → PSs (X.suite a ((a, oe) :: pn)) (b0 :: suite) (ts a cls d)) (r : PHs X hds th) :
    PHs X (.ExceptHandler (some (.Name x q1)) (some nm) (b0 :: suite) pos :: hds) (fun D cls d σ H => ∃ b, PySem.W.exmOne X.K cls C = some b ∧
      (b = true → ∀ a, H a = none → ts a cls d { nx := fun σ' H' => D.nx (σ'.set i none) H', rt := D.rt, bk := fun σ' H' => D.bk (σ'.set i none) H', ct := fun σ' H' => D.ct (σ'.set i none) H' } (σ.set i (some (.ref a))) H) ∧ (b = false → th D cls d σ H)) := by
  intro pins B sI s3 a cls d σ H D c ⟨b, e, yes, no⟩
  obtain ⟨oe, vs, he, hz, hd⟩ := c.fly.there
  have J3 : Inv X pins σ H { s3 with heap := s3.heap } := c.J.landed c.nb c.fly.1 c.up c.os c.ag
  refine wpAny_handleBy_cons (codeAny_handlers_test ?_) (by intro q; cases q)
  have LT : PySem.W.Looks (model X.prog X.w) s3.heap (typeOf (.ref a)) cls := fun A Q E s k q => wpAny_typeOf_ref (k _ _ he) (by rw [hz.1]; exact q)
  refine caught_test c hg hm hdb ((PySem.W.exm_one (M := model X.prog X.w) J3.kIn LT e).here ?_)
  cases b with
  | true =>
    refine codeAny_handlers_suite_as (PySem.HandSPX.lands_againZ c.fly fun h4 fl4 up4 => ?_)
    have J4 : Inv X pins σ H { s3 with heap := h4 } := c.J.landed c.nb fl4.1 (c.up.trans up4) c.os c.ag
    obtain ⟨oe4, vs4, he4, hz4, hd4⟩ := fl4.there
    have ok := c.J.ok
    refine store_ok (X := X.suite a ((a, oe4) :: (X.pn ++ pins))) (v := .ref a) (J4.suite he4 hd4 c.na c.nL c.nF) nd hi (.inl hl) rfl (fun s5 S5 => ?_) (.inr hl)
    refine wpAny_mono ((hsu a oe4 cls d (X.pn ++ pins) hz4 ⟨_, hd4⟩).run [] s5 _ H _ S5 (yes rfl a c.na)) (fun f s6 z => ?_) (fun _ _ z => False.elim z)
    have fin : ∀ {σ6 : L2.St} {H6 : Hp} {Q : Shared → Prop}, Inv (X.suite a ((a, oe4) :: (X.pn ++ pins))) [] σ6 H6 s6 → (∀ s7, Inv X pins (σ6.set i none) H6 s7 → Q s7) →
        wpAny (model X.prog X.w) X.A (do bindName X.env nm .none; unbindBehindTheSuite X.env nm pos) (fun _ s7 => Q s7) X.xe s6 := fun {σ6 H6 Q} S6 hq => gone_ok (S6.unsuite ok) nd hi hl hq
    match f, z with
    | .next, ⟨σ6, H6, S6, z⟩ => exact fin S6 fun s7 J7 => ⟨_, _, J7, z⟩
    | .brk, ⟨σ6, H6, S6, z⟩ => exact fin S6 fun s7 J7 => ⟨_, _, J7, z⟩
    | .cont, ⟨σ6, H6, S6, z⟩ => exact fin S6 fun s7 J7 => ⟨_, _, J7, z⟩
    | .ret u, ⟨v6, σ6, H6, S6, r6, z⟩ => exact fin S6 fun s7 J7 => ⟨_, _, _, J7, r6, z⟩
  | false => exact r pins B sI s3 a cls d σ H D c (no rfl)
end
end MX
namespace MX
open PySem PySem.Spec PyProof.Rows L2
section
variable {L : Lk} {Γ : Cn} {n : Nat} {ev : Ev} {p : Pn} {X : Cx}
theorem CxOk.tr (C : CxOk L Γ n ev p X) (hx : Γ.xas = none) (hy : Γ.xal = none) (pn : List (Addr × Obj)) (xe : Value → Shared → Prop) : CxOk L Γ n ev p (X.tr pn xe) where
  x0 := ⟨C.x0.K, C.x0.mg, C.x0.un, C.x0.gd⟩
  gb := C.gb
  N := C.N
  nd := C.nd
  sc := C.sc
  pin := C.pin
  room := C.room
  calm := C.calm
  fn := C.fn
  pg := C.pg
  lev := C.lev
  fns := C.fns
  thk := fun x h => by
    obtain ⟨m, h1, h2⟩ := C.thk x h
    exact ⟨m, h1, fun pn' xe' W q1 q2 tk => h2 pn' xe' W q1 q2 tk⟩
  xas := fun x h => by
    rw [hx] at h
    cases h
  thks := C.thks
  lam := fun h => ⟨(C.lam h).tab⟩
  hts := C.hts
  xal := fun x h => by
    rw [hy] at h
    cases h
/-- the suite of a clause without a name -/
theorem CxOk.suite (C : CxOk L Γ n ev p X) (x : XV) (a : Addr) (pn : List (Addr × Obj)) : CxOk L { Γ with hot := true, lam := false, thk := none, xas := none, xal := none } n { ev with xc := some x } p (X.suite a pn) where
  x0 := ⟨C.x0.K, C.x0.mg, C.x0.un, C.x0.gd⟩
  gb := C.gb
  N := C.N
  nd := C.nd
  sc := C.sc
  pin := C.pin
  room := fun h => by cases h
  calm := fun h => by cases h
  fn := C.fn
  pg := C.pg
  lev := C.lev
  fns := C.fns
  thk := fun x h => by cases h
  xas := fun x h => by cases h
  thks := C.thks
  lam := fun h => by cases h
  hts := C.hts
  xal := fun x h => by cases h
/-- err.f -/
theorem pe_field (C : CxOk L Γ n ev p X) {x : XV} {a : Addr} {oe : Obj} {cls : Value} {d : Option Addr} {pn : List (Addr × Obj)} {ρ0 : List Addr} {H0 : Hp} {nm : Str} {i f : Nat} {W : WX} {q1 q2 : Pos} (hz : Zc cls d oe) (hd : ∃ vs, oe.data = .fields vs) (xr : XRel L ρ0 H0 x cls d) (h1 : X.N[i]? = some nm)
    (h2 : Vis X.env.scope nm) (h3 : (nm == ("__debug__" : Str)) = false) (h4 : (nm == ("__classdict__" : Str)) = false) :
    PE (X.suite a ((a, oe) :: pn)) (.Attribute (.Name nm q1) (L.fld f) q2) (tM L ⟨(i, .ref a) :: p.pv, ρ0, H0⟩ (VR L) (fun _ => M.opt (x.fs.lookup f)) W) := by
  refine ⟨fun pins s σ H Q I ⟨pn1, ρ, env, h, R, er, pa, r⟩ => ?_⟩
  simp only [M.opt] at r
  cases hl : x.fs.lookup f with
  | none =>
    rw [hl] at r
    exact r.elim
  | some v =>
    rw [hl] at r
    obtain ⟨x1, x2, x3, _⟩ := xr
    obtain ⟨T, no, a', gs, v', e1, e2, e3, e4⟩ := x3 f v hl
    have he : PE (X.suite a ((a, oe) :: pn)) (.Name nm q1) (tVar i) := pe_var (X := X.suite a ((a, oe) :: pn)) h1 h2 h3 h4
    refine (pe_xf (X := X) (C := L.clA x.cls) (by rw [C.x0.K]; exact T) (by rw [C.x0.K]; exact no) hz hd he).run pins s σ H Q I ⟨.ref a, pn1 (i, .ref a) List.mem_cons_self, rfl, x2, a', gs, v', e1, pa.sta _ _ trivial e2, e3, r.ret R (e4.mono pa)⟩
theorem CxOk.suiteAs (C : CxOk L Γ n ev p X) (hh : Γ.hot = false) {x : XV} {a : Addr} {oe : Obj} {cls : Value} {d : Option Addr} {pn : List (Addr × Obj)} {ρ0 : List Addr} {H0 : Hp} {nm : Str} {i : Nat} (hz : Zc cls d oe) (hd : ∃ vs, oe.data = .fields vs) (xr : XRel L ρ0 H0 x cls d) (h1 : X.N[i]? = some nm)
    (h2 : Vis X.env.scope nm) (h3 : (nm == ("__debug__" : Str)) = false) (h4 : (nm == ("__classdict__" : Str)) = false) :
    CxOk L { Γ with hot := true, lam := false, thk := none, xas := some nm, xal := some nm, pin := i :: Γ.pin } n { ev with xc := some x } ⟨(i, .ref a) :: p.pv, ρ0, H0⟩ (X.suite a ((a, oe) :: pn)) where
  x0 := ⟨C.x0.K, C.x0.mg, C.x0.un, C.x0.gd⟩
  gb := C.gb
  N := C.N
  nd := C.nd
  sc := C.sc
  pin := by
    show i :: p.pv.map (·.1) = i :: Γ.pin
    rw [C.pin]
  room := fun h => by cases h
  calm := fun h => by cases h
  fn := C.fn
  pg := C.pg
  lev := C.lev
  fns := C.fns
  thk := fun x h => by cases h
  xas := fun y h => by
    cases h
    exact ⟨x, rfl, fun f W q1 q2 => pe_field C hz hd xr h1 h2 h3 h4⟩
  thks := C.thks
  lam := fun h => by cases h
  hts := C.hts
  xal := fun y h => by
    cases h
    have r := C.room hh
    exact ⟨x, rfl, ⟨⟨r.dp, r.un⟩, i, a, oe, cls, d, h1, h2, h3, h4, List.mem_cons_self, List.mem_cons_self, hz, hd, xr⟩⟩
/-! ### the clauses -/
def TH (L : Lk) (p : Pn) (ev : Ev) (hs : Hds) (W : WX) (D : Ends) (cls : Value) (d : Option Addr) (σ : L2.St) (H : Hp) : Prop :=
  Pins p σ ∧ ∃ ρ env h x, Rep L ρ h H ∧ ERel L.K ρ H env σ ∧ Past p ρ H ∧ XRel L ρ H x cls d ∧ resS L p ρ H (exH ev hs x env h) D W
theorem PHs.imp {hds : List ExceptHandler} {t t' : Ends → Value → Option Addr → L2.St → Hp → Prop} (h : PHs X hds t) (k : ∀ D cls d σ H, σ.length = X.N.length → t' D cls d σ H → t D cls d σ H) : PHs X hds t' :=
  fun pins B sI s3 a cls d σ H D c q => h pins B sI s3 a cls d σ H D c (k D cls d σ H c.J.len q)
def SndSs (L : Lk) (k : Nat) : Prop := ∀ (Γ : Cn) (n : Nat) (ev : Ev) (p : Pn) (X : Cx) (W : WX) (ss : List Stmt) (cs : CSs), CxOk L Γ n ev p X → StOk Γ X → Takes X W → cSs k Γ ss = some cs → PSs X ss (tS L p (exSs ev cs) W)
theorem hot_read {r : SR} {ρ : List Addr} {H : Hp} {D : Ends} {W W' : WX} (h : resS L p ρ H (match r with | .exc _ _ _ => .bad | r => r) D W) : resS L p ρ H r D W' := by
  cases r with
  | exc x env h' => exact h.elim
  | _ => exact h
theorem hds_ok {k : Nat} (ih : SndSs L k) (C : CxOk L Γ n ev p X) (hh : Γ.hot = false) (S : StOk Γ X) {W : WX} (tk : Takes X W) : ∀ (hds : List ExceptHandler) (hs : Hds), cHd (cSs k) Γ hds = some hs → PHs X hds (TH L p ev hs W)
  | [], hs, h => by
    simp only [cHd] at h
    cases h
    exact PHs.imp (phs_nil S tk) fun D cls d σ H _ ⟨pn, ρ, env, h0, x, R, er, pa, xr, r⟩ => r ρ H σ cls d (Ext.refl _ _) R er pn xr
  | .ExceptHandler ty as body pos :: r, hs, h => by
    unfold cHd at h
    split at h
    · next e => cases e
    · next x q1 as' b suite q2 r' e =>
      cases e
      split at h
      · next hg =>
        obtain ⟨g1, g2, _, _⟩ := gl_of C hg
        simp only [Option.bind_eq_bind, Option.bind_eq_some_iff] at h
        obtain ⟨c, hc, r2, hr, h⟩ := h
        obtain ⟨c1, c2⟩ := C.gb.cls x c hc
        have pr := hds_ok ih C hh S tk r r2 hr
        split at h
        · simp only [Option.bind_eq_some_iff, Option.some.injEq] at h
          obtain ⟨s, hsu, rfl⟩ := h
          have P1 := phs_cons (pos := pos) (q1 := q1) (b0 := b) (suite := suite) g1 (by rw [C.x0.mg]; exact c2) g2 (ts := fun a cls d D σ H => ∃ x, tS L p (exSs { ev with xc := some x } s) (fun _ _ _ _ => False) D σ H)
            (fun a oe cls d pn hz hd => ⟨fun pins s1 σ H D I ⟨x, q⟩ => (ih _ _ _ _ _ _ _ _ (C.suite x a ((a, oe) :: pn)) ⟨S.stk, S.fr, fun z => by cases z⟩ takesN hsu).run pins s1 σ H D I q⟩) pr
          refine PHs.imp P1 fun D cls d σ H _ ⟨pn, ρ, env, h0, x, R, er, pa, xr, r⟩ => ?_
          obtain ⟨x1, x2, x3, x4⟩ := id xr
          refine ⟨L.pg.sub x.cls c, by rw [C.x0.K, x2]; exact C.gb.sub _ _ x1 c1, fun hb a na => ?_, fun hb => ?_⟩
          · rw [← C.pg] at hb
            simp only [exH, hb] at r
            exact ⟨x, pn, ρ, env, h0, R, er, pa, hot_read r⟩
          · rw [← C.pg] at hb
            simp only [exH, hb] at r
            exact ⟨pn, ρ, env, h0, x, R, er, pa, xr, r⟩
        · next nm =>
          simp only [Option.bind_eq_some_iff] at h
          obtain ⟨i, hi, h⟩ := h
          split at h
          · next hl =>
            simp only [Option.bind_eq_some_iff, Option.some.injEq] at h
            obtain ⟨s, hsu, rfl⟩ := h
            obtain ⟨n1, n2, n3, n4, n5⟩ := store_of C hi
            have hb1 : okN nm = true := by
              unfold storeOf at hi
              split at hi
              · next hb _ =>
                simp only [Bool.and_eq_true] at hb
                exact hb.2
              · cases hi
            unfold okN at hb1
            simp only [Bool.and_eq_true, Bool.not_eq_true'] at hb1
            have vis : Vis X.env.scope nm := by
              rcases n2 with z | z
              · exact .inl z
              · exact .inr (.inl z)
            have P1 := phs_as (pos := pos) (q1 := q1) (b0 := b) (suite := suite) (nm := nm) (i := i) g1 (by rw [C.x0.mg]; exact c2) g2 (by rw [C.N]; exact C.nd) n1 (by show X.env.scope.names.lookup nm = _; rw [C.sc]; exact hl)
              (ts := fun a cls d D σ H => ∃ x ρ0 H0, XRel L ρ0 H0 x cls d ∧ tS L ⟨(i, .ref a) :: p.pv, ρ0, H0⟩ (exSs { ev with xc := some x } s) (fun _ _ _ _ => False) D σ H)
              (fun a oe cls d pn hz hd => ⟨fun pins s1 σ H D I ⟨x, ρ0, H0, xr, q⟩ => (ih _ _ _ _ _ _ _ _ (C.suiteAs hh (pn := pn) (a := a) hz hd xr n1 vis hb1.1.1 hb1.1.2) ⟨S.stk, S.fr, fun z => by cases z⟩ takesN hsu).run pins s1 σ H D I q⟩) pr
            refine PHs.imp P1 fun D cls d σ H hlen ⟨pn, ρ, env, h0, x, R, er, pa, xr, r⟩ => ?_
            obtain ⟨x1, x2, x3, x4⟩ := id xr
            refine ⟨L.pg.sub x.cls c, by rw [C.x0.K, x2]; exact C.gb.sub _ _ x1 c1, fun hb a na => ?_, fun hb => ?_⟩
            · rw [← C.pg] at hb
              simp only [exH, hb] at r
              refine ⟨x, ρ, H, xr, fun q hq => ?_, ρ, env.set i none, h0, R, er.unk i _, Ext.refl _ _, ?_⟩
              · rcases List.mem_cons.mp hq with e | hq
                · rw [e]
                  exact List.getElem?_set_self (by rw [hlen]; exact (List.getElem?_eq_some_iff.mp n1).1)
                · exact pn.set n4 q hq
              · have back : ∀ {σ' : L2.St}, Pins ⟨(i, .ref a) :: p.pv, ρ, H⟩ σ' → Pins p (σ'.set i none) := fun {σ'} z => Pins.set (fun q hq => z q (List.mem_cons_of_mem _ hq)) n4
                cases e6 : exSs { ev with xc := some x } s (env.set i none) h0 with
                | nxt e h' =>
                  rw [e6] at r
                  exact fun ρ' H' σ' e1 R1 er1 pn1 => r ρ' H' (σ'.set i none) e1 R1 (er1.forget i) (back pn1)
                | brk e h' =>
                  rw [e6] at r
                  exact fun ρ' H' σ' e1 R1 er1 pn1 => r ρ' H' (σ'.set i none) e1 R1 (er1.forget i) (back pn1)
                | cnt e h' =>
                  rw [e6] at r
                  exact fun ρ' H' σ' e1 R1 er1 pn1 => r ρ' H' (σ'.set i none) e1 R1 (er1.forget i) (back pn1)
                | ret v h' =>
                  rw [e6] at r
                  exact r
                | exc y e h' =>
                  rw [e6] at r
                  exact r.elim
                | bad =>
                  rw [e6] at r
                  exact r.elim
            · rw [← C.pg] at hb
              simp only [exH, hb] at r
              exact ⟨pn, ρ, env, h0, x, R, er, pa, xr, r⟩
          · cases h
      · cases h
    · cases h
theorem ps_tryM {k : Nat} (ih : SndSs L k) (C : CxOk L Γ n ev p X) (hh : Γ.hot = false) (S : StOk Γ X) (hx : Γ.xas = none) (hy : Γ.xal = none) {W : WX} (tk : Takes X W) {body : List Stmt} {h0 : ExceptHandler} {hds : List ExceptHandler} {pos : Pos} {cb : CSs} {hs : Hds} (hb : cSs k Γ body = some cb) (hs' : cHd (cSs k) Γ (h0 :: hds) = some hs) :
    PS X (.Try body (h0 :: hds) [] [] pos) (tS L p (exS ev (.tryS cb hs)) W) := by
  refine PS.imp (ps_tryG S (tb := fun W' => tS L p (exSs ev cb) W') (fun W' pn xe tk' po => ih _ _ _ _ _ _ _ _ (C.tr hx hy pn xe) ⟨S.stk, S.fr, fun _ => po⟩ tk' hb) (hds_ok ih C hh S tk _ _ hs')) fun D σ H ⟨pn, ρ, env, h1, R, er, pa, r⟩ => ?_
  refine ⟨pn, ρ, env, h1, R, er, pa, ?_⟩
  simp only [exS] at r
  cases e6 : exSs ev cb env h1 with
  | exc x e h' =>
    rw [e6] at r
    exact fun ρ' H' σ' cls d e1 R1 er1 pn1 xr => ⟨pn1, ρ', e, h', x, R1, er1, pa.trans e1, xr, r.later e1⟩
  | nxt e h' =>
    rw [e6] at r
    exact r
  | brk e h' =>
    rw [e6] at r
    exact r
  | cnt e h' =>
    rw [e6] at r
    exact r
  | ret v h' =>
    rw [e6] at r
    exact r
  | bad =>
    rw [e6] at r
    exact r
end
end MX
namespace MX
open PySem PySem.Spec PyProof.Rows L2
section
variable {L : Lk} {Γ : Cn} {n : Nat} {ev : Ev} {p : Pn} {X : Cx}
theorem fm_lt {α β : Type} {f : α → Option β} : ∀ {l : List α}, (l.any fun x => (f x).isNone) = true → (l.filterMap f).length < l.length
  | [], h => by cases h
  | x :: l, h => by
    simp only [List.any_cons, Bool.or_eq_true] at h
    cases e : f x with
    | none =>
      rw [List.filterMap_cons_none e, List.length_cons]
      exact Nat.lt_succ_of_le (List.length_filterMap_le _ _)
    | some y =>
      rw [List.filterMap_cons_some e, List.length_cons, List.length_cons]
      rcases h with h | h
      · rw [e] at h
        cases h
      · exact Nat.succ_lt_succ (fm_lt h)
theorem sw_none {env : PySem.Env} {ts : List Expr} {j : Nat} {q1 : Pos} {e : Expr} (hsc : env.scope = Γ.sc) (h : nparB Γ ts = true) : swappedStores [.Tuple ts j q1] e env = pure none := by
  cases e with
  | Tuple vs j2 q2 =>
    unfold swappedStores
    simp only
    have lt : (ts.filterMap fun | .Name id pos => if env.kindOf id == some .local && pos.line == (ts.head?.map (·.pos.line)).getD 0 then some id else none | _ => none).length < ts.length := by
      refine fm_lt ?_
      unfold nparB at h
      rw [List.any_eq_true] at h ⊢
      obtain ⟨t, h1, h2⟩ := h
      refine ⟨t, h1, ?_⟩
      cases t with
      | Name id pos =>
        have hk : env.kindOf id = Γ.sc.names.lookup id := by
          show env.scope.names.lookup id = _
          rw [hsc]
        simp only [Bool.not_eq_true', decide_eq_false_iff_not] at h2
        have : (env.kindOf id == some .local) = false := by
          rw [hk]
          simpa using h2
        simp [this]
      | _ => rfl
    split
    · rfl
    · split
      · rfl
      · rw [if_pos (by
          rw [Bool.or_eq_true]
          exact .inl (bne_iff_ne.mpr (Nat.ne_of_lt lt)))]
  | _ => rfl
theorem sw_some {env : PySem.Env} {x y : Str} {a b : Expr} {px py q1 q2 : Pos} {j j2 : Nat} (hk : env.scope.kind = .function) (hsc : env.scope = Γ.sc) (ha : ∀ e q, a ≠ .Starred e q) (hb : ∀ e q, b ≠ .Starred e q) (h : parB Γ x y px py a b = true) :
    swappedStores [.Tuple [.Name x px, .Name y py] j q1] (.Tuple [a, b] j2 q2) env = pure (some [x, y]) := by
  unfold parB at h
  simp only [Bool.and_eq_true, decide_eq_true_eq, Bool.not_eq_true', beq_eq_false_iff_ne] at h
  obtain ⟨⟨⟨⟨⟨h1, h2⟩, h3⟩, h4⟩, h5⟩, h6⟩ := h
  have kx : (env.kindOf x == some .local) = true := by
    show (env.scope.names.lookup x == some .local) = true
    rw [hsc, h1]
    rfl
  have ky : (env.kindOf y == some .local) = true := by
    show (env.scope.names.lookup y == some .local) = true
    rw [hsc, h2]
    rfl
  have hbk : (env.blockKind != .function) = false := by
    unfold Env.blockKind
    rw [hk]
    rfl
  have st : ([a, b].any fun | .Starred .. => true | _ => false) = false := by
    have one : ∀ {e : Expr}, (∀ e' q, e ≠ .Starred e' q) → (match e with | .Starred .. => true | _ => false) = false := fun {e} he => by
      cases e <;> first | rfl | exact absurd rfl (he _ _)
    simp only [List.any_cons, List.any_nil, one ha, one hb, Bool.or_false]
  have lx : (px.line == ((([Expr.Name x px, Expr.Name y py].head?).map (·.pos.line)).getD 0)) = true := by
    show (px.line == px.line) = true
    simp
  have ly : (py.line == ((([Expr.Name x px, Expr.Name y py].head?).map (·.pos.line)).getD 0)) = true := by
    show (py.line == px.line) = true
    rw [beq_iff_eq]
    exact (beq_iff_eq.mp h3).symm
  have nm : ([Expr.Name x px, Expr.Name y py].filterMap fun | .Name id pos => if env.kindOf id == some .local && pos.line == ((([Expr.Name x px, Expr.Name y py].head?).map (·.pos.line)).getD 0) then some id else none | _ => none) = [x, y] := by
    rw [List.filterMap_cons, List.filterMap_cons, List.filterMap_nil]
    simp only [kx, ky, lx, ly, Bool.and_self, if_true]
  have du : ([x, y].eraseDups.length != [x, y].length) = false := by
    have : (y == x) = false := by
      rw [beq_eq_false_iff_ne]
      exact fun z => h4 z.symm
    simp [List.eraseDups_cons, this]
  unfold swappedStores
  refine (if_neg (fun z => ?_)).trans ((if_neg (fun z => ?_)).trans ((if_neg (fun z => ?_)).trans ((if_neg (fun z => ?_)).trans ?_)))
  · rw [hbk] at z
    cases z
  · have z' := st.symm.trans z
    cases z'
  · have z' : ([x, y].length != 2 || ([x, y].eraseDups.length != [x, y].length)) = true := by
      rw [← nm]
      exact z
    rw [du] at z'
    cases z'
  · have z' := h5.symm.trans z
    cases z'
  · show (if ([a, b].all (constantsAlone 8)) = true then _ else _) = _
    rw [h6]
    show pure (some _) = _
    exact congrArg (fun l => (pure (some l) : Sem (Option (List Str)))) nm
theorem posOf_inj {ys : List Str} (nd : ys.Nodup) {x y : Str} {i : Nat} (h1 : ys[i]? = some x) (h2 : ys[i]? = some y) : x = y := by
  rw [h1] at h2
  exact Option.some.inj h2
end
end MX
namespace MX
open PySem PySem.Spec PyProof.Rows L2
section
variable {L : Lk} {Γ : Cn} {n : Nat} {ev : Ev} {p : Pn} {X : Cx}
theorem noStar {k : Nat} {e : Expr} {ce : CE} (h : cE k Γ e = some ce) : ∀ e' q, e ≠ .Starred e' q := by
  rintro e' q rfl
  cases k with
  | zero => cases h
  | succ k => cases h
/-- name = e, e no comprehension -/
theorem name_ok (C : CxOk L Γ n ev p X) {W : WX} {x : Str} {i k : Nat} {q1 pos : Pos} {e : Expr} {ce : CE} (hi : storeOf Γ x = some i) (he : PE X e (tM L p (VR L) (evE ev ce) W)) (hs : swapsWith e (some (.Name x q1)) pos.line X.env = pure false) :
    PS X (.Assign [.Name x q1] e pos) (tS L p (exS ev (.asg (.name i) ce)) W) := by
  obtain ⟨h1, h2, h3, h4, _⟩ := store_of C hi
  exact PS.imp (ps_set (by rw [C.N]; exact C.nd) h1 h2 he hs h3) fun D σ H q => asgN_read h4 q
theorem lc_ok (C : CxOk L Γ n ev p X) {W : WX} (tk : Takes X W) {x : Str} {i k : Nat} {q1 q2 pos : Pos} {elt : Expr} {g0 : Comprehension} {scope : Scope} {ce : CE} (hi : storeOf Γ x = some i) (he : cE k Γ (.ListComp elt [g0] scope q2) = some ce) :
    PS X (.Assign [.Name x q1] (.ListComp elt [g0] scope q2) pos) (tS L p (exS ev (.asg (.name i) ce)) W) := by
  have hsw : swapsWith (.ListComp elt [g0] scope q2) (some (.Name x q1)) pos.line X.env = pure (X.env.blockKind == .function && X.env.kindOf x == some .local && q1.line == q2.line && !(scope.names.any fun (n, k) => n == x && (k == .local || k == .cell))) := rfl
  cases hb : (X.env.blockKind == .function && X.env.kindOf x == some .local && q1.line == q2.line && !(scope.names.any fun (n, k) => n == x && (k == .local || k == .cell))) with
  | false => exact name_ok (k := k) C hi (snd_e k _ _ _ _ _ _ _ _ C tk he).1 (by rw [hsw, hb])
  | true =>
    cases k with
    | zero => cases he
    | succ k =>
      obtain ⟨tg, iter, ifs, elt', tg', it', c, eg, rfl, hh, h1, h2, h3, h4, h5, h6⟩ := (comp_parts (snd_e k) C tk he).ex
      cases eg
      obtain ⟨n1, n2, n3, n4, _⟩ := store_of C hi
      have hb' := hb
      simp only [Bool.and_eq_true] at hb'
      have hl : X.env.scope.names.lookup x = some .local := by
        have := hb'.1.1.2
        show X.env.kindOf x = _
        simpa using this
      exact PS.imp (ps_compM C hh h1 h2 h3 h4 h5 h6 n1 hl (by rw [hsw, hb])) fun D σ H q => asgN_read n4 q
/-- name = {..} -/
theorem dc_ok (C : CxOk L Γ n ev p X) {W : WX} (tk : Takes X W) {x : Str} {i k : Nat} {q1 q2 pos : Pos} {kx vx : Expr} {gs : List Comprehension} {scope : Scope} {ce : CE} (hi : storeOf Γ x = some i) (he : cE k Γ (.DictComp kx vx gs scope q2) = some ce) :
    PS X (.Assign [.Name x q1] (.DictComp kx vx gs scope q2) pos) (tS L p (exS ev (.asg (.name i) ce)) W) := by
  cases k with
  | zero => cases he
  | succ k =>
    obtain ⟨tg, iter, ke, ve, tg', it, rfl, rfl, hh, h1, h2, h3, h4, h5, h6⟩ := dcomp_ok (snd_e k) C tk he
    have hsw : swapsWith (.DictComp kx vx [⟨tg, iter, [], 0⟩] scope q2) (some (.Name x q1)) pos.line X.env = pure (X.env.blockKind == .function && X.env.kindOf x == some .local && q1.line == q2.line && !(scope.names.any fun (n, k) => n == x && (k == .local || k == .cell))) := rfl
    cases hb : (X.env.blockKind == .function && X.env.kindOf x == some .local && q1.line == q2.line && !(scope.names.any fun (n, k) => n == x && (k == .local || k == .cell))) with
    | false => exact name_ok (k := k + 1) C hi (snd_e (k + 1) _ _ _ _ _ _ _ _ C tk he).1 (by rw [hsw, hb])
    | true =>
      obtain ⟨n1, n2, n3, n4, _⟩ := store_of C hi
      have hb' := hb
      simp only [Bool.and_eq_true] at hb'
      have hl : X.env.scope.names.lookup x = some .local := by
        have := hb'.1.1.2
        show X.env.kindOf x = _
        simpa using this
      exact PS.imp (ps_dcompM C hh h1 h2 h3 h4 h5 h6 n1 hl (by rw [hsw, hb])) fun D σ H q => asgN_read n4 q
/-- name op= e -/
theorem aug_ok (C : CxOk L Γ n ev p X) {W : WX} {x : Str} {i : Nat} {q1 pos : Pos} {e : Expr} {ce : CE} {op : Operator} {sub : Bool} (ho : (op = .Add ∧ sub = false) ∨ (op = .Sub ∧ sub = true)) (hi : storeOf Γ x = some i) (he : PE X e (tM L p (VR L) (evE ev ce) W)) :
    PS X (.AugAssign (.Name x q1) op e pos) (tS L p (exS ev (.aug sub i ce)) W) := by
  obtain ⟨h1, h2, h3, h4, _⟩ := store_of C hi
  have hp : PIp X op (ipI fun i j => if sub = true then i - j else i + j) := by
    rcases ho with ⟨rfl, rfl⟩ | ⟨rfl, rfl⟩
    · exact ip_add
    · exact ip_sub
  refine PS.imp (ps_aug (by rw [C.N]; exact C.nd) h1 h2 he hp h3) fun D σ H q => ?_
  obtain ⟨pn, ρ, env, h0, R, er, pa, r⟩ := q
  simp only [exS] at r
  cases ea : env[i]? with
  | none =>
    rw [ea] at r
    exact r.elim
  | some o =>
    rw [ea] at r
    cases o with
    | none => exact r.elim
    | some d0 =>
      cases d0 with
      | int a =>
        obtain ⟨v, ev1, rv⟩ := er.2 i _ ea
        cases rv
        refine ⟨_, ev1, pn, ρ, env, h0, R, er, pa, (lift_read (P := VR L) pn er r).mono fun y H1 => ?_⟩
        rintro ⟨ρ1, h1', d, e1, R1, rd, r1⟩
        have rd : VRel L.K ρ1 H1 d y := rd
        cases rd with
        | int b => exact ⟨a, b, rfl, rfl, r1.nxt R1 ((er.mono e1).set (.int _) i) (pn.set h4)⟩
        | _ => exact r1.elim
      | _ => exact r.elim
theorem tgt_ok (C : CxOk L Γ n ev p X) {W : WX} {ts : List Expr} {j k : Nat} {q1 pos : Pos} {e : Expr} {ce : CE} {t : Tg} (ht : cTg Γ k (.Tuple ts j q1) = some t) (he : PE X e (tM L p (VR L) (evE ev ce) W)) (hs : swapsWithSole [.Tuple ts j q1] e pos.line X.env = pure false)
    (hw : swappedStores [.Tuple ts j q1] e X.env = pure none) : PS X (.Assign [.Tuple ts j q1] e pos) (tS L p (exS ev (.asg t ce)) W) :=
  PS.imp (ps_asg he ((pg_tgts C k).1 ht) hs hw) fun D σ H q => asg_read q
theorem asg_ok (C : CxOk L Γ n ev p X) (S : StOk Γ X) {W : WX} (tk : Takes X W) {k : Nat} {t e : Expr} {cs : CS} {pos : Pos} (h : cAsg k Γ t e = some cs) : PS X (.Assign [t] e pos) (tS L p (exS ev cs) W) := by
  have one : ∀ {e ce}, cE k Γ e = some ce → PE X e (tM L p (VR L) (evE ev ce) W) := fun {e ce} he => (snd_e k _ _ _ _ _ _ _ _ C tk he).1
  have pa : ∀ {es : List Expr} {ces : CEs}, cL (cE k Γ) es = some ces → PA X es (tM L p (VRs L) (evEs ev ces) W) := fun {es ces} hc => pa_list (fun e ce he => one he) hc
  unfold cAsg at h
  split at h
  · next x q1 =>
    split at h
    · cases h
    · next kx vx gs scope q2 =>
      simp only [Option.bind_eq_bind, Option.bind_eq_some_iff, Option.some.injEq] at h
      obtain ⟨i, hi, e', he, rfl⟩ := h
      exact dc_ok C tk hi he
    · next elt g0 scope q2 =>
      simp only [Option.bind_eq_bind, Option.bind_eq_some_iff, Option.some.injEq] at h
      obtain ⟨i, hi, e', he, rfl⟩ := h
      exact lc_ok C tk hi he
    · cases h
    · next h1 h2 h3 h4 =>
      simp only [Option.bind_eq_bind, Option.bind_eq_some_iff, Option.some.injEq] at h
      obtain ⟨i, hi, e', he, rfl⟩ := h
      refine name_ok (k := k) C hi (one he) ?_
      cases e <;> first | rfl | exact (h1 _ _ _ _ rfl).elim | exact (h2 _ _ _ _ _ rfl).elim | exact (h3 _ _ _ _ rfl).elim | exact (h4 _ _ _ _ rfl).elim
  · next ts j q1 =>
    split at h
    · cases h
    · next hot =>
      have hh : Γ.hot = false := by simpa using hot
      split at h
      · next vs j2 q2 =>
        have gen : ∀ {cs : CS}, nparB Γ ts = true → (do let t' ← cTg Γ k (.Tuple ts j q1); let e' ← cE k Γ (.Tuple vs j2 q2); some (CS.asg t' e')) = some cs → PS X (.Assign [.Tuple ts j q1] (.Tuple vs j2 q2) pos) (tS L p (exS ev cs) W) := fun {cs} hn h => by
          simp only [Option.bind_eq_bind, Option.bind_eq_some_iff, Option.some.injEq] at h
          obtain ⟨t', ht, e', he, rfl⟩ := h
          exact tgt_ok C ht (one he) (by rfl) (sw_none C.sc hn)
        split at h
        · next x px y py a b =>
          split at h
          · next hp =>
            simp only [Option.bind_eq_bind, Option.bind_eq_some_iff, Option.some.injEq] at h
            obtain ⟨i, hi, i2, hj, es, hes, rfl⟩ := h
            obtain ⟨ca, r1, ha, hr, rfl⟩ := cL_cons hes
            obtain ⟨cb, r2, hb, hr2, rfl⟩ := cL_cons hr
            cases hr2
            obtain ⟨n1, n2, n3, n4, _⟩ := store_of C hi
            obtain ⟨m1, m2, m3, m4, _⟩ := store_of C hj
            have hp' := hp
            unfold parB at hp'
            simp only [Bool.and_eq_true, decide_eq_true_eq, Bool.not_eq_true', beq_eq_false_iff_ne] at hp'
            have hij : i ≠ i2 := by
              rintro rfl
              rw [n1] at m1
              exact hp'.1.1.2 (Option.some.inj m1)
            refine ⟨fun pins s σ H D I q => ?_⟩
            exact (ps_par (C.calm hh) (by rw [C.N]; exact C.nd) n1 m1 hij (by rw [C.sc]; exact hp'.1.1.1.1.1) (by rw [C.sc]; exact hp'.1.1.1.1.2) (pa hes) (sw_some I.ok.kind C.sc (noStar ha) (noStar hb) hp) (by rfl)).run pins s σ H D I (par_read n4 m4 q)
          · split at h
            · next hn => exact gen hn h
            · cases h
        · split at h
          · next hn => exact gen hn h
          · cases h
      · simp only [Option.bind_eq_bind, Option.bind_eq_some_iff, Option.some.injEq] at h
        obtain ⟨t', ht, e', he, rfl⟩ := h
        exact tgt_ok C ht (one he) (by rfl) (by rfl)
      · simp only [Option.bind_eq_bind, Option.bind_eq_some_iff, Option.some.injEq] at h
        obtain ⟨t', ht, e', he, rfl⟩ := h
        exact tgt_ok C ht (one he) (by rfl) (by rfl)
      · simp only [Option.bind_eq_bind, Option.bind_eq_some_iff, Option.some.injEq] at h
        obtain ⟨t', ht, e', he, rfl⟩ := h
        exact tgt_ok C ht (one he) (by rfl) (by rfl)
      · cases h
  · next o f q1 =>
    split at h
    · cases h
    · split at h
      · next hb =>
        simp only [Bool.and_eq_true, decide_eq_true_eq] at hb
        simp only [Option.bind_eq_bind, Option.bind_eq_some_iff, Option.some.injEq] at h
        obtain ⟨e', he, o', ho, rfl⟩ := h
        refine ps_fldM C hb.2 ?_ (one ho) (one he)
        have hv := hb.1
        cases e <;> first | rfl | cases hv
      · cases h
  · next o i q1 =>
    split at h
    · cases h
    · split at h
      · next hsl =>
        split at h
        · cases h
        · cases h
        · next h1 h2 =>
          simp only [Option.bind_eq_bind, Option.bind_eq_some_iff, Option.some.injEq] at h
          obtain ⟨e', he, o', ho, i', hi, rfl⟩ := h
          refine PS.imp (ps_asg (one he) (pg_sub (one ho) (one hi) (pset_M C.x0) (fun v => ?_)) ?_ (by rfl) (by rfl)) fun D σ H q => sets_read q
          · cases i <;> first | rfl | cases hsl
          · cases e <;> first | rfl | exact (h1 _ _ _ _ rfl).elim | exact (h2 _ _ _ _ _ rfl).elim
      · cases h
  · cases h
end
end MX
namespace MX
open PySem PySem.Spec PyProof.Rows L2
section
variable {L : Lk} {Γ : Cn} {n : Nat} {ev : Ev} {p : Pn} {X : Cx}
theorem raise_okM (C : CxOk L Γ n ev p X) {W : WX} (tk : Takes X W) {k : Nat} {e : Expr} {cs : CS} {pos : Pos} (h : cRaise k Γ e = some cs) : PS X (.Raise (some e) none pos) (tS L p (exS ev cs) W) := by
  unfold cRaise at h
  split at h
  · cases h
  · next hot =>
    have hh : Γ.hot = false := by simpa using hot
    split at h
    · next x q1 args q2 =>
      split at h
      · next hg =>
        simp only [Option.bind_eq_bind, Option.bind_eq_some_iff] at h
        obtain ⟨c, hc, h⟩ := h
        split at h
        · next hi =>
          split at h
          · cases h
            exact ps_raiseMM C hh tk hg hc hi
          · cases h
        · next f hi =>
          split at h
          · next a =>
            cases ha : cE k Γ a with
            | none =>
              rw [ha] at h
              cases h
            | some ca =>
              rw [ha] at h
              cases h
              exact ps_raiseIM C hh tk hg hc hi ha (snd_e k _ _ _ _ _ _ _ _ C tk ha).1
          · cases h
        · cases h
      · cases h
    · cases h
theorem snd_s : ∀ k : Nat, (∀ (Γ : Cn) (n : Nat) (ev : Ev) (p : Pn) (X : Cx) (W : WX) (s : Stmt) (cs : CS), CxOk L Γ n ev p X → StOk Γ X → Takes X W → cS k Γ s = some cs → PS X s (tS L p (exS ev cs) W)) ∧ SndSs L k
  | 0 => ⟨fun Γ n ev p X W s cs C S tk h => by (simp only [cS] at h; cases h), fun Γ n ev p X W s cs C S tk h => by (simp only [cSs] at h; cases h)⟩
  | k + 1 => by
    obtain ⟨ih1, ih2⟩ := snd_s k
    refine ⟨fun Γ n ev p X W s cs C S tk h => ?_, fun Γ n ev p X W ss cs C S tk h => ?_⟩
    · have one : ∀ {e ce}, cE k Γ e = some ce → Snd L ev p X W e ce := fun {e ce} he => snd_e k _ _ _ _ _ _ _ _ C tk he
      have sub : ∀ {b cb}, cSs k Γ b = some cb → PSs X b (tS L p (exSs ev cb) W) := fun {b cb} hb => ih2 _ _ _ _ _ _ _ _ C S tk hb
      cases s with
      | Return v pos =>
        simp only [cS] at h
        split at h
        · next e =>
          cases he : cE k Γ e with
          | none =>
            rw [he] at h
            cases h
          | some ce =>
            rw [he] at h
            cases h
            exact ps_retM (one he).1
        · cases h
          exact PS.imp ps_retN fun D σ H ⟨pn, ρ, env, h0, R, er, pa, r⟩ => r ρ H .non (Ext.refl _ _) R .non
      | Expr e pos =>
        simp only [cS] at h
        split at h
        · cases h
        · cases h
        · cases h
        · next h1 h2 h3 =>
          cases he : cE k Γ e with
          | none =>
            rw [he] at h
            cases h
          | some ce =>
            rw [he] at h
            cases h
            refine ps_exprM (one he).1 ?_
            cases e <;> first | rfl | exact (h1 _ _ _ _ rfl).elim | exact (h2 _ _ _ _ rfl).elim | exact (h3 _ _ _ _ _ rfl).elim
      | Assign ts e pos =>
        simp only [cS] at h
        split at h
        · exact asg_ok C S tk h
        · cases h
      | AugAssign t op e pos =>
        simp only [cS] at h
        split at h
        · split at h
          · simp only [Option.bind_eq_bind, Option.bind_eq_some_iff, Option.some.injEq] at h
            obtain ⟨i, hi, e', he, rfl⟩ := h
            exact aug_ok C (.inl ⟨rfl, rfl⟩) hi (one he).1
          · simp only [Option.bind_eq_bind, Option.bind_eq_some_iff, Option.some.injEq] at h
            obtain ⟨i, hi, e', he, rfl⟩ := h
            exact aug_ok C (.inr ⟨rfl, rfl⟩) hi (one he).1
          · cases h
        · cases h
      | If c a b pos =>
        simp only [cS, Option.bind_eq_bind, Option.bind_eq_some_iff, Option.some.injEq] at h
        obtain ⟨c', hc, a', ha, b', hb, rfl⟩ := h
        exact ps_ifM (one hc).2 (sub ha) (sub hb)
      | For t it body orelse pos =>
        simp only [cS] at h
        split at h
        · cases h
        · next hot =>
          have hh : Γ.hot = false := by simpa using hot
          split at h
          · split at h
            · next hs =>
              simp only [Option.bind_eq_bind, Option.bind_eq_some_iff, Option.some.injEq] at h
              obtain ⟨t', ht, it', hi, b', hb, rfl⟩ := h
              exact ps_forM (S.po hh) (C.calm hh) hs (iter_ok (snd_e k) C tk hi) ((pg_tgts C k).1 ht) (sub hb)
            · cases h
          · cases h
      | While c body orelse pos =>
        simp only [cS] at h
        split at h
        · cases h
        · next hot =>
          have hh : Γ.hot = false := by simpa using hot
          split at h
          · simp only [Option.bind_eq_bind, Option.bind_eq_some_iff, Option.some.injEq] at h
            obtain ⟨c', hc, b', hb, rfl⟩ := h
            exact ps_whileM (S.po hh) (one hc).2 (sub hb)
          · cases h
      | Raise e c pos =>
        simp only [cS] at h
        split at h
        · exact raise_okM C tk h
        · cases h
      | Try body hs orelse fin pos =>
        simp only [cS] at h
        split at h
        · cases h
        · next hot =>
          have hx : Γ.hot = false ∧ Γ.xas = none ∧ Γ.xal = none := by
            simp only [Bool.or_eq_true, not_or, Bool.not_eq_true, Option.isSome_eq_false_iff, Option.isNone_iff_eq_none] at hot
            exact hot
          split at h
          · simp only [Option.bind_eq_bind, Option.bind_eq_some_iff, Option.some.injEq] at h
            obtain ⟨b', hb, hs', hh, rfl⟩ := h
            exact ps_tryM ih2 C hx.1 S hx.2.1 hx.2.2 tk hb hh
          · cases h
      | Pass pos =>
        simp only [cS] at h
        cases h
        exact PS.imp ps_pass fun D σ H ⟨pn, ρ, env, h0, R, er, pa, r⟩ => r.nxt R er pn
      | Break pos =>
        simp only [cS] at h
        cases h
        exact PS.imp ps_break fun D σ H ⟨pn, ρ, env, h0, R, er, pa, r⟩ => r ρ H σ (Ext.refl _ _) R er pn
      | Continue pos =>
        simp only [cS] at h
        cases h
        exact PS.imp ps_continue fun D σ H ⟨pn, ρ, env, h0, R, er, pa, r⟩ => r ρ H σ (Ext.refl _ _) R er pn
      | _ =>
        simp only [cS] at h
        cases h
    · cases ss with
      | nil =>
        simp only [cSs] at h
        cases h
        exact PSs.imp pss_nil fun D σ H ⟨pn, ρ, env, h0, R, er, pa, r⟩ => r.nxt R er pn
      | cons s ss =>
        simp only [cSs, Option.bind_eq_bind, Option.bind_eq_some_iff, Option.some.injEq] at h
        obtain ⟨a, ha, b, hb, rfl⟩ := h
        refine PSs.imp (pss_cons (ih1 _ _ _ _ _ _ _ _ C S tk ha) (ih2 _ _ _ _ _ _ _ _ C S tk hb)) fun D σ H ⟨pn, ρ, env, h0, R, er, pa, r⟩ => ?_
        refine ⟨pn, ρ, env, h0, R, er, pa, ?_⟩
        simp only [exSs] at r
        cases e6 : exS ev a env h0 with
        | nxt e h' =>
          rw [e6] at r
          exact fun ρ' H' σ' e1 R1 er1 pn1 => ⟨pn1, ρ', e, h', R1, er1, pa.trans e1, r.later e1⟩
        | exc x e h' =>
          rw [e6] at r
          exact r
        | brk e h' =>
          rw [e6] at r
          exact r
        | cnt e h' =>
          rw [e6] at r
          exact r
        | ret v h' =>
          rw [e6] at r
          exact r
        | bad =>
          rw [e6] at r
          exact r
end
end MX
namespace MX
open PySem PySem.Spec PyProof.Rows L2
/-- a def of the module -/
structure DefOk (L : Lk) (g : Gb) (base : Heap) (i : Nat) (x : Str) : Prop where
  ex : ∃ (nm : Str) (a : Addr) (params : Arguments) (body : List Stmt) (scope : Scope) (dV kV doc pm cdv ct oc : Value) (an od : Option Addr) (osl : Array (Option Value)) (N ps : List Str) (fuel : Nat) (fd : FD) (lamf : Bool),
    L.fa i = a ∧ L.K.lookup a = some ⟨oc, od, .func (PySem.W.fnOf nm x params body scope dV kV doc pm an cdv ct), osl⟩ ∧ PySem.W.codeIn L.K cdv x = true ∧ PySem.W.keepIn L.K (.ref a) = true ∧
    BindX L (PySem.W.fnOf nm x params body scope dV kV doc pm an cdv ct) ps (L.pg.dfl i) ∧ FnScope N ps scope ∧ N.Nodup ∧ L.pg.fns[i]? = some fd ∧ fd.np = ps.length ∧ fd.ns = N.length ∧
    (fd.thk = false → cSs fuel { g := g, N := N, sc := scope, lam := lamf } body = some fd.body) ∧
    (fd.thk = true → ∃ a', ps = [a'] ∧ N[0]? = some a' ∧ Vis scope a' ∧ (a' == ("__debug__" : Str)) = false ∧ (a' == ("__classdict__" : Str)) = false ∧ cSs fuel { g := g, N := N, sc := scope, thk := some a', pin := [0], lam := lamf } body = some fd.body) ∧
    (x ∈ g.thks → fd.thk = true ∧ nm = x ∧ L.mg x = some (.ref a) ∧ L.pg.dfl i = []) ∧
    (x ∈ g.hots → ∃ b z, fd.hb = some b ∧ L.pg.dfl i = [] ∧ ps = [z] ∧ N[0]? = some z ∧ Vis scope z ∧ (z == ("__debug__" : Str)) = false ∧ (z == ("__classdict__" : Str)) = false ∧
      cSs fuel { g := g, N := N, sc := scope, pin := [0], xal := some z, hot := true } body = some b) ∧
    (lamf = true → ∃ c P, LamX.TabB base L.mg c P ∧ cdv = .ref c ∧ (P, (x ++ ".<locals>.") ++ "<lambda>") ∈ L.T ∧ ∀ q ∈ L.T, q.1 = P → q.2 = (x ++ ".<locals>.") ++ "<lambda>")
theorem start_rel {K : PySem.W.Frag} {ρ : List Addr} {H : Hp} {ds : List D} {vs : List V} {N : List Str} (r : VRels K ρ H ds vs) (h : vs.length ≤ N.length) : ERel K ρ H (ds.map some ++ List.replicate (N.length - ds.length) none) (L2.start N vs) := by
  have hl := r.length
  unfold L2.start
  refine ⟨by simp [hl], fun i d e => ?_⟩
  by_cases hi : i < ds.length
  · rw [List.getElem?_append_left (by simpa using hi), List.getElem?_map] at e
    cases e2 : ds[i]? with
    | none =>
      rw [e2] at e
      cases e
    | some d' =>
      rw [e2] at e
      simp only [Option.map_some, Option.some.injEq] at e
      subst e
      obtain ⟨v, e3, rv⟩ := r.get e2
      refine ⟨v, ?_, rv⟩
      rw [List.getElem?_append_left (by rw [List.length_map, ← hl]; exact hi), List.getElem?_map, e3]
      rfl
  · rw [List.getElem?_append_right (by simpa using hi), List.getElem?_replicate] at e
    split at e <;> cases e
section
variable {L : Lk} {g : Gb} {P : Program} {w : World} {base : Heap}
theorem cx_lam {lamf : Bool} {x : Str} {cdv : Value} {X : Cx} (hl : lamf = true → ∃ c P, LamX.TabB base L.mg c P ∧ cdv = .ref c ∧ (P, (x ++ ".<locals>.") ++ "<lambda>") ∈ L.T ∧ ∀ q ∈ L.T, q.1 = P → q.2 = (x ++ ".<locals>.") ++ "<lambda>")
    (h1 : X.base = base) (h2 : X.mg = L.mg) (h3 : X.env.code = cdv) (h4 : X.env.qual = x ++ ".<locals>.") : lamf = true → LamOk L X := fun h => by
  obtain ⟨c, P, TB, e, m, u⟩ := hl h
  exact ⟨c, P, by rw [h1, h2]; exact TB, by rw [h3]; exact e, by rw [h4]; exact m, by rw [h4]; exact u⟩
/-- a def run where an exception is handled that it is handed -/
theorem fnX_of {m i : Nat} {f : Addr} {name qual : Str} {params : Arguments} {body : List Stmt} {scope : Scope} {dV kV doc pm cdv ct oc : Value} {an od : Option Addr} {osl : Array (Option Value)} {N ps : List Str}
    (lk : L.K.lookup f = some ⟨oc, od, .func (PySem.W.fnOf name qual params body scope dV kV doc pm an cdv ct), osl⟩) (hcd : PySem.W.codeIn L.K cdv qual = true) (S : FnScope N ps scope) (hl : ps.length = 1)
    (hbody : ∀ (A : Around) (outer : List PySem.Env) (s : Shared) (H : Hp) (e : Addr) (oe : Obj) (cls : Value) (d : Option Addr) (Q : VK) (E : XK) (y : XV) (ρ : List Addr) (h : Hh), L2H.RoomH m (A.deeper (envOfC qual scope s.heap.objs.size f cdv)) → A.guards = some [] → Zc cls d oe → (∃ vs, oe.data = .fields vs) →
      Rep L ρ h H → XRel L ρ H y cls d → res L (VR L) ρ H ((mkCl L.pg (tabs L.pg m)).callH i y h) Q (fun _ _ _ => False) →
      ∃ t, PSs (L2H.cxH (L2.CX P w) P w L.K L.mg base N qual scope f cdv A outer s H E (e, oe)) body t ∧ t { nx := fun _ H' => Q .non H', rt := Q } (L2.start N [.ref e]) H) :
    FnX L P w base m i f (PySem.W.fnOf name qual params body scope dV kV doc pm an cdv ct) ps := by
  constructor
  · exact hl
  · intro A outer s H args e oe cls d Q E y ρ h room gd pin hz hf e0 hb R xr q
    have kin : L.K.In s.heap := e0.mod.kin.keeps fun b o z => (e0.bs b o z).1
    have lim : s.heap.NoLimit := e0.mod.nolimit.keeps fun b o z => (e0.bs b o z).1
    have kinds : ∀ z ∈ ps.zip [Value.ref e], scope.names.lookup z.1 = some .local ∨ (scope.names.lookup z.1 = some .cell ∧ ((cellsFrom (s.heap.objs.size + 1) scope.names []).lookup z.1).isSome = true) := by
      rintro ⟨z, u⟩ hzz
      have := S.par z (List.of_mem_zip hzz).1
      cases this with
      | inl k => exact .inl k
      | inr k => exact .inr ⟨k, PySem.W.cellsFrom_some _ _ _ (.inl k)⟩
    refine codeAny_call_function room.depth (kin _ _ lk) rfl S.co S.gen rfl (PySem.W.codeRec_of kin hcd) (hb _ _ _ _ (wpAny_newFunctionEnv_cells S.kind kinds fun env he s1 x => ?_))
    cases he
    obtain ⟨t, run, start⟩ := hbody A outer s H e oe cls d Q E y ρ h (room.deeper _) gd hz hf R xr q
    have I1 : Inv (L2H.cxH (L2.CX P w) P w L.K L.mg base N qual scope f cdv A outer s H E (e, oe)) [] (L2.start N [.ref e]) H s1 := L2H.inv_startH S pin e0 (by rw [hl]; rfl) (.cons rfl .nil) x
    refine ⟨lim.keeps x.toInCall.keep, codeAny_func (wpAny_mono (run.run [] s1 _ H _ I1 start) (fun fl s2 z => ?_) fun _ _ z => z)⟩
    match fl, z with
    | .ret u, ⟨v, _, H2, J, rv, qq⟩ => exact ⟨v, H2, J.os, J.bare, J.base, J.hok, rv, qq⟩
    | .next, ⟨_, H2, J, qq⟩ => exact ⟨.non, H2, J.os, J.bare, J.base, J.hok, rfl, qq⟩
    | .brk, ⟨_, _, _, qq⟩ => exact qq.elim
    | .cont, ⟨_, _, _, qq⟩ => exact qq.elim
theorem fns_ok (G : GbOk L g) (D : ∀ i x, (g.fns ++ g.mfn)[i]? = some x → DefOk L g base i x) : ∀ m i x, (g.fns ++ g.mfn)[i]? = some x → FnS L P w base m i x ∧ (x ∈ g.thks → ThkS L P w base m i x) ∧ (x ∈ g.hots → FnHS L P w base m i) := by
  intro m
  induction m using Nat.strongRecOn with
  | ind m ih =>
    intro i x hx
    obtain ⟨nm, a, params, body, scope, dV, kV, doc, pm, cdv, ct, oc, an, od, osl, N, ps, fuel, fd, lamf, h1, h2, h3, h4, h5, h6, h7, h8, h9, h10, h11, h12, h13, h15, h14⟩ := (D i x hx).ex
    have below : ∀ k m', k + m' + 1 = m → ∀ i x, (g.fns ++ g.mfn)[i]? = some x → FnS L P w base m' i x := fun k m' e i x hx => (ih m' (by omega) i x hx).1
    have belowT : ∀ k m', k + m' + 1 = m → ∀ i x, posOf g.fns x = some i → x ∈ g.thks → ThkS L P w base m' i x := fun k m' e i x hx ht => (ih m' (by omega) i x (fns_at hx)).2.1 ht
    have belowH : ∀ k m', k + m' + 1 = m → ∀ i x, posOf g.fns x = some i → x ∈ g.hots → FnHS L P w base m' i := fun k m' e i x hx ht => (ih m' (by omega) i x (fns_at hx)).2.2 ht
    have lenN : ps.length ≤ N.length := by
      have := congrArg List.length h6.pre
      rw [List.length_take] at this
      omega
    refine ⟨⟨a, _, ps, h1, h4, h5, ?_, fun fd' e => by rw [h8] at e; cases e; exact h9⟩, fun ht => ?_, fun ht => ?_⟩
    · refine fnM_of (N := N) h2 h3 h6 (fun vs H Q E q => q.1) fun A outer s H vs Q E hr hg sp => ?_
      obtain ⟨hl, ρ, h, ds, R, rds, r⟩ := sp
      simp only [mkCl, h8] at r
      split at r
      · next hc =>
        have hS : StOk (⟨g, N, scope, [], none, none, none, false, lamf, fun _ => true⟩ : Cn) (cxOf (L2.CX P w) P w L.K L.mg base N x scope a cdv A outer s H E) := ⟨rfl, rfl, fun _ => passes_of rfl⟩
        have hC : CxOk L (⟨g, N, scope, [], none, none, none, false, lamf, fun _ => true⟩ : Cn) m ⟨L.pg, tabs L.pg m, none, none⟩ Pn.free (cxOf (L2.CX P w) P w L.K L.mg base N x scope a cdv A outer s H E) := {
          x0 := ⟨rfl, rfl, by
            have := hr.un
            show (A.deeper (envOfC x scope s.heap.objs.size a cdv)).units + 200 < cLine
            omega, hg⟩
          gb := G
          N := rfl
          nd := h7
          sc := rfl
          pin := rfl
          room := fun _ => hr
          calm := fun _ => rfl
          fn := fun _ _ => rfl
          pg := rfl
          lev := rfl
          fns := below
          thks := belowT
          thk := fun _ z => by cases z
          xas := fun _ z => by cases z
          lam := cx_lam h14 rfl rfl rfl rfl
          hts := belowH
          xal := fun _ z => by cases z }
        refine ⟨_, (snd_s fuel).2 _ _ _ _ _ _ _ _ hC hS (takes_of rfl rfl rfl rfl) (h11 hc.1), Pins.free _, ρ, ds.map some ++ List.replicate (fd.ns - ds.length) none, h, R, ?_, Past.free _ _, res_ret r⟩
        rw [h10]
        exact start_rel rds (by rw [hl]; exact lenN)
      · exact r.elim
    · obtain ⟨hthk, hnm, hmx, hd0⟩ := h13 ht
      rw [hd0] at h5
      have h5 := h5.all0
      obtain rfl := hnm.symm
      obtain ⟨a', e1, e2, e3, e4, e5, e6⟩ := h12 hthk
      subst e1
      refine ⟨a', a, N, params, body, scope, dV, kV, doc, pm, cdv, ct, oc, an, od, osl, hmx, h2, h3, h5, h6, e2, e3, e4, e5, fun fd' e => by rw [h8] at e; cases e; exact h10, ?_⟩
      intro A outer s H E f ρ0 H0 m0 fd' hr hg hfd act _
      rw [h8] at hfd
      cases hfd
      have hS : StOk (⟨g, N, scope, [0], some a', none, none, false, lamf, fun _ => true⟩ : Cn) (cxOf (L2.CX P w) P w L.K L.mg base N x scope a cdv A outer s H E) := ⟨rfl, rfl, fun _ => passes_of rfl⟩
      have hC : CxOk L (⟨g, N, scope, [0], some a', none, none, false, lamf, fun _ => true⟩ : Cn) m ⟨L.pg, tabs L.pg m, some m0, none⟩ ⟨[(0, .ref f)], ρ0, H0⟩ (cxOf (L2.CX P w) P w L.K L.mg base N x scope a cdv A outer s H E) := {
        x0 := ⟨rfl, rfl, by
          have := hr.un
          show (A.deeper (envOfC x scope s.heap.objs.size a cdv)).units + 200 < cLine
          omega, hg⟩
        gb := G
        N := rfl
        nd := h7
        sc := rfl
        pin := rfl
        room := fun _ => hr
        calm := fun _ => rfl
        fn := fun _ _ => rfl
        pg := rfl
        lev := rfl
        fns := below
        thks := belowT
        thk := fun y z => by
          cases z
          exact ⟨m0, rfl, fun pn xe W q1 q2 tk => act pn xe W q1 q2 tk⟩
        xas := fun _ z => by cases z
        lam := cx_lam h14 rfl rfl rfl rfl
        hts := belowH
        xal := fun _ z => by cases z }
      exact (snd_s fuel).2 _ _ _ _ _ _ _ _ hC hS (takes_of rfl rfl rfl rfl) e6
    · obtain ⟨b, z, e0, hd0, e1, e2, e3, e4, e5, e6⟩ := h15 ht
      rw [hd0] at h5
      subst e1
      refine ⟨a, _, [z], h1, h4, h5.all0, fnX_of (N := N) h2 h3 h6 rfl fun A outer s H e oe cls d Q E y ρ h hr hg hz hf R xr q => ?_⟩
      simp only [mkCl, h8, e0] at q
      have q := res.noX (W' := fun _ _ _ => False) q
      have hS : StOk ({ g := g, N := N, sc := scope, pin := [0], xal := some z, hot := true } : Cn) (L2H.cxH (L2.CX P w) P w L.K L.mg base N x scope a cdv A outer s H E (e, oe)) := ⟨rfl, rfl, fun z => by cases z⟩
      have hC : CxOk L ({ g := g, N := N, sc := scope, pin := [0], xal := some z, hot := true } : Cn) m ⟨L.pg, tabs L.pg m, none, some y⟩ ⟨[(0, .ref e)], ρ, H⟩ (L2H.cxH (L2.CX P w) P w L.K L.mg base N x scope a cdv A outer s H E (e, oe)) := {
        x0 := ⟨rfl, rfl, by
          have := hr.un
          show (A.deeper (envOfC x scope s.heap.objs.size a cdv)).units + 200 < cLine
          omega, hg⟩
        gb := G
        N := rfl
        nd := h7
        sc := rfl
        pin := rfl
        room := fun z => by cases z
        calm := fun z => by cases z
        fn := fun _ _ => rfl
        pg := rfl
        lev := rfl
        fns := below
        thks := belowT
        thk := fun _ z => by cases z
        xas := fun _ z => by cases z
        lam := fun z => by cases z
        hts := belowH
        xal := fun y' zz => by
          cases zz
          exact ⟨y, rfl, ⟨hr, 0, e, oe, cls, d, e2, e3, e4, e5, List.mem_cons_self, List.mem_cons_self, hz, hf, xr⟩⟩ }
      refine ⟨_, (snd_s fuel).2 _ _ _ _ _ (fun _ _ _ _ => False) _ _ hC hS takesN e6, fun q' hq => ?_, ρ, List.replicate fd.ns none, h, R, ?_, Ext.refl _ _, res_ret q⟩
      · simp only [List.mem_singleton] at hq
        subst hq
        unfold L2.start
        rfl
      · rw [h10]
        refine ⟨?_, fun k d z => ?_⟩
        · unfold L2.start
          have : 0 < N.length := (List.getElem?_eq_some_iff.mp e2).1
          simp
          omega
        · rw [List.getElem?_replicate] at z
          split at z <;> cases z
end
end MX
namespace MX
open PySem PySem.Spec PyProof.Rows L2
/-! ### the end of a law's row -/
section
variable {P : Program} {w : World} {K : PySem.W.Frag} {mg mb : Str → Option Value} {k : Nat} {fa a : Addr} {cs : List (Addr × Addr)} {fd : FuncData} {ps : List Str} {sp : Sp} {s1 : Shared} {vs : List Value} {ns : List Int}
/-- what stands ahead of the law's call -/
structure Ahead (K : PySem.W.Frag) (mg mb : Str → Option Value) (cs : List (Addr × Addr)) (a : Addr) (s1 : Shared) (vs : List Value) (ns : List Int) : Prop where
  kin : K.In s1.heap
  nsm : s1.heap.Ns mainGlobals mg
  nsb : s1.heap.Ns builtinsNs mb
  boot : ∀ x : Str, x ≠ "__name__" → mb x = bootBuiltins x
  lim : s1.heap.NoLimit
  gens : s1.gens = #[]
  tab : ∀ p ∈ cs, s1.heap.get? p.2 = some { cls := .none, data := .fields #[] }
  tabK : ∀ p ∈ cs, K.lookup p.2 = none
  code : ∀ p ∈ cs, PySem.W.CodeHd s1.heap p.1 p.2
  bmain : ∃ (bm : Addr) (ob : Obj), mg "__builtins__" = some (.ref bm) ∧ bm ≠ builtinsNs ∧ s1.heap.get? bm = some ob ∧ ob.cls = .type "module" ∧ ob.dict = some builtinsNs ∧ ob.data = .plain
  lst : s1.heap.get? a = some { cls := .type "list", data := .seq vs.toArray }
  nums : IntsAre vs ns
  few : ns.length ≤ sizeLine
/-- the abstract heap ahead of it: the tables, the script -/
structure HAhead (P : Program) (w : World) (K : PySem.W.Frag) (cs : List (Addr × Addr)) (a : Addr) (s1 : Shared) (ns : List Int) (H : Hp) : Prop where
  tab : ∀ p ∈ cs, H p.2 = some (.tbl #[])
  only : ∀ b, H b = none ∨ b ∈ cs.map (·.2) ∨ ∃ o xs, H b = some (.frz o (.lst xs))
  hok : HOk P w H s1.heap
  dom : ∀ b, H b ≠ none → b = a ∨ b ∈ cs.map (·.2)
  scr : ScrAt K H a ns
  off : H a ≠ none → K.lookup a = none
theorem tab_at (h : Ahead K mg mb cs a s1 vs ns) {b : Addr} (hb : b ∈ cs.map (·.2)) : s1.heap.get? b = some { cls := .none, data := .fields #[] } := by
  obtain ⟨p, hp, e⟩ := List.mem_map.mp hb
  rw [← e]
  exact h.tab p hp
theorem a_tab (h : Ahead K mg mb cs a s1 vs ns) : a ∉ cs.map (·.2) := fun z => by
  have q := (tab_at h z).symm.trans h.lst
  have q' : Data.fields #[] = Data.seq vs.toArray _ := congrArg Obj.data (Option.some.inj q)
  cases q'
/-- what is neither a list's nor a table's object is not tracked -/
theorem untracked (h : Ahead K mg mb cs a s1 vs ns) {H : Hp} (A : HAhead P w K cs a s1 ns H) {b : Addr} {o : Obj} (e : s1.heap.get? b = some o) (h1 : ∀ vs n, o.data ≠ .seq vs n) (h2 : o.data ≠ .fields #[]) : H b = none := by
  cases q : H b with
  | none => rfl
  | some u =>
    rcases A.dom b (by rw [q]; simp) with z | z
    · rw [z, h.lst] at e
      cases e
      exact (h1 _ _ rfl).elim
    · rw [tab_at h z] at e
      cases e
      exact (h2 rfl).elim
theorem untracked_dict (h : Ahead K mg mb cs a s1 vs ns) {H : Hp} (A : HAhead P w K cs a s1 ns H) {b : Addr} {o : Obj} {es : Array DictEntry} {ep : Nat} (e : s1.heap.get? b = some o) (d : o.data = .dict es ep) : H b = none :=
  untracked h A e (fun vs n z => by rw [d] at z; cases z) fun z => by rw [d] at z; cases z
theorem hid_ns (h : Ahead K mg mb cs a s1 vs ns) {H : Hp} (A : HAhead P w K cs a s1 ns H) {b : Addr} {m : Str → Option Value} (q : s1.heap.Ns b m) : (hidT s1.heap H).Ns b m := by
  obtain ⟨o, es, ep, e, d, r⟩ := q
  exact ⟨o, es, ep, hidT_get e (untracked_dict h A e d), d, r⟩
theorem hid_in (h : Ahead K mg mb cs a s1 vs ns) {H : Hp} (A : HAhead P w K cs a s1 ns H) : K.In (hidT s1.heap H) := fun b o e => hidT_get (h.kin b o e) (by
  cases q : H b with
  | none => rfl
  | some u =>
    rcases A.dom b (by rw [q]; simp) with z | z
    · rw [z] at e q
      rw [A.off (by rw [q]; simp)] at e
      cases e
    · obtain ⟨p, hp, ep⟩ := List.mem_map.mp z
      rw [← ep, h.tabK p hp] at e
      cases e)
theorem hid_tab (h : Ahead K mg mb cs a s1 vs ns) {H : Hp} (A : HAhead P w K cs a s1 ns H) : ∀ p ∈ cs, LamX.TabB (hidT s1.heap H) mg p.1 p.2 := fun p hp => by
  have tp := h.tab p hp
  obtain ⟨oM, esM, epM, eM, dM, _⟩ := id h.nsm
  refine ⟨?_, ?_, fun z => ?_⟩
  · obtain ⟨o, us, file, tf, flags, tg, inF, text, tt, e1, r1, r2, r3, r⟩ := h.code p hp
    refine ⟨o, us, file, tf, flags, tg, inF, text, tt, hidT_get e1 (untracked h A e1 (fun vs n z => ?_) fun z => ?_), r1, r2, r3, r⟩
    · rw [r2] at z
      cases z
    · rw [r2] at z
      cases z
      simp at r3
  · obtain ⟨bm, ob, b1, b2, b3, b4, b5, b6⟩ := h.bmain
    refine ⟨bm, ob, b1, b2, fun q => ?_, fun q => ?_, hidT_get b3 (untracked h A b3 (fun vs n z => ?_) fun z => ?_), b4, b5, b6⟩
    · rw [q, eM] at b3
      cases b3
      rw [dM] at b6
      cases b6
    · rw [q, tp] at b3
      cases b3
      cases b6
    · rw [b6] at z
      cases z
    · rw [b6] at z
      cases z
  · rw [z, tp] at eM
    cases eM
    cases dM
/-- the law's call, from such a heap -/
theorem law_run (h : Ahead K mg mb cs a s1 vs ns) (hr : Room k callerA) {H : Hp} (A : HAhead P w K cs a s1 ns H) (F : FnM P w K mg (hidT s1.heap H) k fa fd ps sp) (hb : BindsTo s1 fd ⟨[.ref a], []⟩ (ps.zip [.ref a])) (hsp : sp [.ref a] H (fun v _ => v = .bl true) fun _ _ _ => False) :
    codeAny (model P w) callerA (.call (.ref fa) ⟨[.ref a], []⟩) (fun r s' => r = .ok (.ret (.bool true)) ∧ OldK s1.heap s'.heap ∧ s'.os = s1.os ∧ AllBare s'.gens) s1 := by
  have M : L2.Mod K mg (hidT s1.heap H) := ⟨hid_in h A, hid_ns h A h.nsm, ⟨mb, hid_ns h A h.nsb, h.boot⟩, let ⟨mc, h1, h2⟩ := h.lim; ⟨mc, hid_ns h A h1, h2⟩⟩
  have e0 : Env0 P w K mg (hidT s1.heap H) callerA [] s1 H := ⟨rfl, M, fun b o e => of_hidT e, Nat.le_of_eq (hidT_size _ _), trivial, fun b hb => absurd (show b ∈ ([] : List Addr) from hb) (by simp), A.hok, .of_eq h.gens⟩
  refine codeAny_mono (F.run callerA [] s1 H ⟨[.ref a], []⟩ [.ref a] [.ref a] _ _ hr rfl e0 hb (.cons rfl .nil) hsp) fun r s' q => ?_
  match r, q with
  | .error e, q =>
    obtain ⟨_, _, _, _, _, _, _, _, _, _, _, _, z⟩ := q
    exact z.elim
  | .ok .next, q => exact False.elim q
  | .ok .brk, q => exact False.elim q
  | .ok .cont, q => exact False.elim q
  | .ok (.ret u), q =>
    obtain ⟨v, H', os, bare, un, hok', rv, qv⟩ := q
    subst qv
    obtain rfl : u = Value.bool true := rv
    have kept : ∀ b o, b ∉ cs.map (·.2) → s1.heap.get? b = some o → s'.heap.get? b = some o := fun b o nb e => by
      rcases A.only b with z | z | ⟨ob, xs, z⟩
      · exact un.keep b o e z (by intro z; exact absurd (show b ∈ ([] : List Addr) from z) (by simp)) (by simp)
      · exact absurd z nb
      · obtain ⟨e1, _⟩ := A.hok b _ z
        obtain ⟨e2, _⟩ := hok' b _ (un.frzs b ob _ z)
        rw [e] at e1
        cases e1
        exact e2
    have grown : ∀ p ∈ cs, ∃ more : Array Value, s'.heap.get? p.2 = some { cls := .none, data := .fields more } := fun p hp => by
      obtain ⟨more, z⟩ := un.tbls p.2 #[] (A.tab p hp)
      exact ⟨_, hok' p.2 _ z⟩
    refine ⟨rfl, ⟨fun b o e => ?_, fun b o e => ?_⟩, os, bare⟩
    · by_cases hb : b ∈ cs.map (·.2)
      · obtain ⟨p, hp, ep⟩ := List.mem_map.mp hb
        obtain ⟨more, hm⟩ := grown p hp
        rw [← ep] at e ⊢
        rw [h.tab p hp] at e
        cases e
        exact .inr (.inl ⟨((h.code p hp).tab (h.tab p hp)).isCodeTable, rfl, #[], more, rfl, by rw [Array.empty_append]; exact hm⟩)
      · exact .inl (kept b o hb e)
    · by_cases hb : b ∈ cs.map (·.2)
      · obtain ⟨p, hp, ep⟩ := List.mem_map.mp hb
        obtain ⟨more, hm⟩ := grown p hp
        rw [← ep]
        exact ⟨_, hm⟩
      · exact ⟨o, kept b o hb e⟩
/-- the abstract heap, made -/
theorem ahead_heap (P : Program) (w : World) (h : Ahead K mg mb cs a s1 vs ns) : ∃ H, HAhead P w K cs a s1 ns H := by
  have rv := vals_ints h.nums
  have lenV := h.nums.length
  have memT : ∀ p ∈ cs, p.2 ∈ cs.map (·.2) := fun p hp => List.mem_map.mpr ⟨p, hp, rfl⟩
  have aT := a_tab h
  cases hk : K.lookup a with
  | some o =>
    have e := h.kin a o hk
    rw [h.lst] at e
    cases e
    refine ⟨fun b => if b ∈ cs.map (·.2) then some (.tbl #[]) else none, fun p hp => if_pos (memT p hp), fun b => ?_, fun b u z => ?_, fun b z => ?_, .inr ⟨_, vs.toArray, _, hk, rfl, rfl, rfl, by rw [List.size_toArray, lenV]; exact h.few, by simpa using rv⟩, fun z => absurd (if_neg aT) z⟩
    · by_cases hb : b ∈ cs.map (·.2)
      · exact .inr (.inl hb)
      · exact .inl (if_neg hb)
    · by_cases hb : b ∈ cs.map (·.2)
      · cases (if_pos hb).symm.trans z
        exact tab_at h hb
      · cases (if_neg hb).symm.trans z
    · by_cases hb : b ∈ cs.map (·.2)
      · exact .inr hb
      · exact absurd (if_neg hb) z
  | none =>
    refine ⟨fun b => if b = a then some (.frz { cls := .type "list", data := .seq vs.toArray } (.lst (ns.map V.int))) else if b ∈ cs.map (·.2) then some (.tbl #[]) else none,
      fun p hp => (if_neg (show ¬ p.2 = a from fun z => aT (by rw [← z]; exact memT p hp))).trans (if_pos (memT p hp)), fun b => ?_, fun b u z => ?_, fun b z => ?_, .inl ⟨{ cls := .type "list", data := .seq vs.toArray }, if_pos rfl⟩, fun _ => hk⟩
    · by_cases hb : b = a
      · exact .inr (.inr ⟨_, _, if_pos hb⟩)
      · by_cases hc : b ∈ cs.map (·.2)
        · exact .inr (.inl hc)
        · exact .inl ((if_neg hb).trans (if_neg hc))
    · by_cases hb : b = a
      · cases (if_pos hb).symm.trans z
        rw [hb]
        exact ⟨h.lst, by rw [List.length_map]; exact h.few, vs, _, rv, h.lst⟩
      · by_cases hc : b ∈ cs.map (·.2)
        · cases (if_pos hc).symm.trans ((if_neg hb).symm.trans z)
          exact tab_at h hc
        · cases (if_neg hc).symm.trans ((if_neg hb).symm.trans z)
    · by_cases hb : b = a
      · exact .inl hb
      · by_cases hc : b ∈ cs.map (·.2)
        · exact .inr hc
        · exact absurd ((if_neg hb).trans (if_neg hc)) z
end
/-- what the link tells of a law: at the head's heap -/
structure Link (P : Program) (w : World) (K : PySem.W.Frag) (mg : Str → Option Value) (h : Heap) (L : Lk) (g : Gb) (cs : List (Addr × Addr)) (law : Str) : Prop where
  eK : L.K = K
  eM : L.mg = mg
  tab : ∀ p ∈ cs, h.get? p.2 = some { cls := .none, data := .fields #[] }
  tabK : ∀ p ∈ cs, K.lookup p.2 = none
  code : ∀ p ∈ cs, PySem.W.CodeHd h p.1 p.2
  tabs : ∀ q ∈ L.T, q.1 ∈ cs.map (·.2)
  gb : GbOk L g
  defs : ∀ base : Heap, (∀ p ∈ cs, LamX.TabB base mg p.1 p.2) → ∀ i x, (g.fns ++ g.mfn)[i]? = some x → DefOk L g base i x
/-- what the mirror answers at the law's call -/
def answers (pg : Pg) (n i : Nat) (ns : List Int) : Bool := match (mkCl pg (tabs pg n)).call i [.scr ns] [] with
  | .ok (.bl true) _ => true
  | _ => false
theorem tabs_nil {T : List (Addr × Str)} {cs : List (Addr × Addr)} {H : Hp} (h1 : ∀ p ∈ cs, H p.2 = some (.tbl #[])) (h2 : ∀ q ∈ T, q.1 ∈ cs.map (·.2)) : LamX.Tabs T H := fun q hq => by
  obtain ⟨p, hp, e⟩ := List.mem_map.mp (h2 q hq)
  exact LamX.TabS.nil (by rw [← e]; exact h1 p hp)
theorem answers_np {pg : Pg} {n i : Nat} {ns : List Int} (h : answers pg n i ns = true) : ∃ fd, pg.fns[i]? = some fd ∧ fd.np = 1 := by
  unfold answers at h
  simp only [mkCl] at h
  cases e : pg.fns[i]? with
  | none =>
    rw [e] at h
    cases h
  | some fd =>
    rw [e] at h
    refine ⟨fd, rfl, ?_⟩
    by_cases hc : fd.thk = false ∧ [D.scr ns].length = fd.np
    · exact hc.2.symm
    · simp only [hc, if_false] at h
      cases h
theorem sp_law {L : Lk} {n i : Nat} {ps : List Str} {a : Addr} {ns : List Int} {H : Hp} {cs : List (Addr × Addr)} (hp : ps.length = 1) (hs : ScrAt L.K H a ns) (h1 : ∀ p ∈ cs, H p.2 = some (.tbl #[])) (h2 : ∀ q ∈ L.T, q.1 ∈ cs.map (·.2)) (ha : answers L.pg n i ns = true) :
    spF L n i ps [.ref a] H (fun v _ => v = .bl true) fun _ _ _ => False := by
  refine ⟨hp.symm, [], [], [.scr ns], ⟨rfl, List.nodup_nil, fun r b o e => by simp at e, tabs_nil h1 h2⟩, .cons (.scr hs) .nil, ?_⟩
  unfold answers at ha
  split at ha
  · next d h e =>
    rw [e]
    intro ρ' H' b _ _ rb
    cases rb
    rfl
  · cases ha
/-- the goal that the head leaves, by the mirror's answer -/
theorem walkM {l : PySem.W.OpenLaw} {n m i : Nat} {q : Program} {loose : List Str} {XP : (Str → Option Value) → Heap → Prop} {YP : World → Heap → Prop} {d : DefRec} {K : Params → PySem.W.Frag} {pg : Pg} {g : Gb}
    (hn : l.most = some n) (hn2 : n ≤ sizeLine) (hdf : d.params.defaults = []) (hr : Room (m + 1) callerA) (hY : ∀ (w : World) (h : Heap), YP w h → (K w.params).In h) (hi : posOf g.fns d.name = some i)
    (F : ∀ (w : World) (mg mb : Str → Option Value) (mean : ExcName → Option Value) (h : Heap), YP w h → (K w.params).In h → Top q (PySem.W.looseW q loose) mean mg mb h → ∃ (L : Lk) (cs : List (Addr × Addr)), Link l.prog w (K w.params) mg h L g cs d.name ∧ L.pg = pg)
    (ans : ∀ ns : List Int, ns.length ≤ n → (∀ z ∈ ns, Builtin.Int.intBits z ≤ 1048576) → answers pg m i ns = true) : PySem.W.WalkO q loose XP YP l.row.toRowW d [] (fun f vs => PySem.call f vs) := by
  refine Att.attach_callB hn hdf fun w s₀ s₁ mg mb fa o pm cd doc a vs ns G Y ho hd hcd hmg hobj hints hlen hbits hg => ?_
  have KX := hY w _ Y
  obtain ⟨L, cs, Z, epg⟩ := F w mg mb _ _ Y KX G.T
  have A : Ahead (K w.params) mg mb cs a s₁ vs ns := ⟨KX, G.T.g, G.T.b, G.T.builtins, G.T.nolimit, hg, Z.tab, Z.tabK, Z.code, G.T.bmain, hobj, hints, Nat.le_trans hlen hn2⟩
  obtain ⟨H, AH⟩ := ahead_heap l.prog w A
  have ha := ans ns hlen hbits
  obtain ⟨fd0, e0, e1⟩ := answers_np ha
  obtain ⟨fa', fd, ps, f1, f2, f3, f4, f5⟩ := (fns_ok (P := l.prog) (w := w) (base := hidT s₁.heap H) Z.gb (Z.defs _ (hid_tab A AH)) m i d.name (fns_at hi)).1.ex
  obtain ⟨a0, g1, _, g2, g3⟩ := Z.gb.fnv d.name i hi
  rw [Z.eM, hmg] at g1
  cases g1
  rw [g2] at f1
  subst f1
  have hp : ps.length = 1 := by rw [← f5 fd0 (by rw [epg]; exact e0), e1]
  rw [Z.eK, Z.eM] at f4
  rw [g3] at f3
  have f3 := f3.all0
  rw [Z.eK] at f3
  have hb := f3 s₁ [.ref a] KX (by rw [List.append_nil, hp]; rfl)
  rw [List.append_nil] at hb
  exact law_run A hr AH f4 hb (sp_law hp (by rw [Z.eK]; exact AH.scr) AH.tab Z.tabs (by rw [epg]; exact ha))
end MX
namespace MX
open PySem PySem.Spec PyProof.Rows L2
/-! ### from the link's facts -/
/-- what the text alone says of a def -/
structure DefT (g : Gb) (nm x : Str) (st : Stmt) (fd : FD) (lamf : Bool) (kw : Option (List Str)) : Prop where
  ex : ∃ (N ps : List Str) (fuel : Nat), (∀ ps', kw = some ps' → ps = ps') ∧ C8.scC N ps (defScope st) = true ∧ fd.np = ps.length ∧ fd.ns = N.length ∧
    (kw = none → ∀ (kV doc pm : Value) (an : Option Addr) (cdv ct : Value) (us : List Value), us.length = ps.length → bindArgs (PySem.W.fnOf nm x (defArgs st) (defBody st) (defScope st) .none kV doc pm an cdv ct) ⟨us, []⟩ = pure (ps.zip us)) ∧
    (fd.thk = false → cSs fuel { g := g, N := N, sc := defScope st, lam := lamf } (defBody st) = some fd.body) ∧
    (fd.thk = true → ∃ a', ps = [a'] ∧ N[0]? = some a' ∧ Vis (defScope st) a' ∧ (a' == ("__debug__" : Str)) = false ∧ (a' == ("__classdict__" : Str)) = false ∧ cSs fuel { g := g, N := N, sc := defScope st, thk := some a', pin := [0], lam := lamf } (defBody st) = some fd.body) ∧
    (x ∈ g.thks → fd.thk = true ∧ nm = x) ∧
    (x ∈ g.hots → ∃ b z, fd.hb = some b ∧ ps = [z] ∧ N[0]? = some z ∧ Vis (defScope st) z ∧ (z == ("__debug__" : Str)) = false ∧ (z == ("__classdict__" : Str)) = false ∧
      cSs fuel { g := g, N := N, sc := defScope st, pin := [0], xal := some z, hot := true } (defBody st) = some b)
/-- what the written part says of it -/
structure DefK (K : PySem.W.Frag) (nm x : Str) (st : Stmt) (f : Addr) (cdv : Value) : Prop where
  lk : ∃ (oc : Value) (od : Option Addr) (kV doc pm : Value) (an : Option Addr) (ct : Value) (osl : Array (Option Value)), K.lookup f = some ⟨oc, od, .func (PySem.W.fnOf nm x (defArgs st) (defBody st) (defScope st) .none kV doc pm an cdv ct), osl⟩
  cd : PySem.W.codeIn K cdv x = true
  kp : PySem.W.keepIn K (.ref f) = true
theorem defK_mk {K : PySem.W.Frag} {nm x : Str} {st : Stmt} {f : Addr} {oc kV doc pm cdv ct : Value} {od an : Option Addr} {osl : Array (Option Value)}
    (l : K.lookup f = some ⟨oc, od, .func (PySem.W.fnOf nm x (defArgs st) (defBody st) (defScope st) .none kV doc pm an cdv ct), osl⟩) (c : PySem.W.codeIn K cdv x = true) (k : PySem.W.keepIn K (.ref f) = true) : DefK K nm x st f cdv := ⟨⟨oc, od, kV, doc, pm, an, ct, osl, l⟩, c, k⟩
section
variable {K : PySem.W.Frag} {h : Heap} {mg mb : Str → Option Value} {L : Lk} {g : Gb} {base : Heap} {p : Program} {loose : List Str} {mean : ExcName → Option Value}
theorem defOk_mk {i : Nat} {nm x : Str} {st : Stmt} {f : Addr} {cdv : Value} {fd : FD} {lamf : Bool} (eK : L.K = K) (D : DefK K nm x st f cdv) (T : DefT g nm x st fd lamf none) (hd : L.pg.dfl i = []) (hf : L.pg.fns[i]? = some fd) (ha : L.fa i = f)
    (hm : x ∈ g.thks → L.mg x = some (.ref f))
    (hl : lamf = true → ∃ c P, LamX.TabB base L.mg c P ∧ cdv = .ref c ∧ (P, (x ++ ".<locals>.") ++ "<lambda>") ∈ L.T ∧ ∀ q ∈ L.T, q.1 = P → q.2 = (x ++ ".<locals>.") ++ "<lambda>") : DefOk L g base i x := by
  obtain ⟨N, ps, fuel, _, t1, t2, t3, t4, t5, t6, t7, t8⟩ := T.ex
  obtain ⟨oc, od, kV, doc, pm, an, ct, osl, lk⟩ := D.lk
  have S := C8.fnScope_by t1
  exact ⟨nm, f, defArgs st, defBody st, defScope st, .none, kV, doc, pm, cdv, ct, oc, an, od, osl, N, ps, fuel, fd, lamf, ha, by rw [eK]; exact lk, by rw [eK]; exact D.cd, by rw [eK]; exact D.kp, by rw [hd]; exact .mk0 (.all (t4 rfl kV doc pm an cdv ct)), S, S.nd, hf, t2, t3, t5, t6, fun h => ⟨(t7 h).1, (t7 h).2, hm h, hd⟩, fun h => (t8 h).elim fun b w => w.elim fun z w => ⟨b, z, w.1, hd, w.2⟩, hl⟩
/-- a def with defaults of keyword-only parameters -/
theorem defOk_mkK {i : Nat} {nm x : Str} {st : Stmt} {f : Addr} {oc kV doc pm cdv ct : Value} {od an : Option Addr} {osl : Array (Option Value)} {fd : FD} {ps : List Str} (eK : L.K = K)
    (lk : K.lookup f = some ⟨oc, od, .func (PySem.W.fnOf nm x (defArgs st) (defBody st) (defScope st) .none kV doc pm an cdv ct), osl⟩) (cd : PySem.W.codeIn K cdv x = true) (kp : PySem.W.keepIn K (.ref f) = true) (T : DefT g nm x st fd false (some ps)) (hf : L.pg.fns[i]? = some fd) (ha : L.fa i = f)
    (hb : BindX L (PySem.W.fnOf nm x (defArgs st) (defBody st) (defScope st) .none kV doc pm an cdv ct) ps (L.pg.dfl i)) (h1 : x ∉ g.thks) (h2 : x ∉ g.hots) : DefOk L g base i x := by
  obtain ⟨N, ps', fuel, t0, t1, t2, t3, t4, t5, t6, t7, t8⟩ := T.ex
  obtain rfl := t0 ps rfl
  have S := C8.fnScope_by t1
  exact ⟨nm, f, defArgs st, defBody st, defScope st, .none, kV, doc, pm, cdv, ct, oc, an, od, osl, N, _, fuel, fd, false, ha, by rw [eK]; exact lk, by rw [eK]; exact cd, by rw [eK]; exact kp, hb, S, S.nd, hf, t2, t3, t5, t6, fun h => absurd h h1, fun h => absurd h h2, fun h => by cases h⟩
/-- two keyword-only defaults: None, then () -/
theorem bindX_two {fd : FuncData} {ps : List Str} {x y : Str} {Dk A : Addr} {od : Option Addr} {its : Array Value} {n : Nat} {sl : Array (Option Value)} {t : Nat} (eK : L.K = K) (e1 : PySem.W.nsIn K Dk x = some (some .none)) (e2 : PySem.W.nsIn K Dk y = some (some (.ref A)))
    (l : K.lookup A = some ⟨.type "tuple", od, .seq its n, sl⟩) (hi : its.toList = []) (hp : ps.length = t + 2)
    (hB : ∀ (us : List Value) (a b : Value), us.length = t → KwChain Dk [(x, a), (y, b)] (bindArgs fd ⟨us, []⟩) (ps.zip (us ++ [a, b]))) : BindX L fd ps [.non, .tup []] := by
  refine ⟨[.none, .ref A], [.non, .ref A], fun s us kin hlen => ?_, .cons rfl (.cons rfl .nil), fun ρ H => .cons .non (.cons (.tup (vs := []) (.inr ⟨_, its, n, by rw [eK]; exact l, rfl, rfl, ?_, by rw [hi]; exact .nil⟩) .nil) .nil)⟩
  · have hl : us.length = t := by
      rw [List.length_append, hp] at hlen
      simpa using hlen
    refine BindsTo.of_looks fun M => KwChain.looks (K := K) (eK ▸ kin) (fun q hq => ?_) (hB us .none (.ref A) hl)
    simp only [List.mem_cons, List.not_mem_nil, or_false] at hq
    rcases hq with rfl | rfl
    · exact e1
    · exact e2
  · have : its.size = 0 := by rw [← Array.length_toList, hi]; rfl
    omega
/-- a def's code object and its table -/
theorem code_of {nm x : Str} {st : Stmt} {f c P : Addr} (T : Top p loose mean mg mb h) (X : K.In h) (hr : (recsOf p).any (fun e => e.name == x) = true) (ns : PySem.W.nsIn K mainGlobals x = some (some (.ref f))) (D : DefK K nm x st f (.ref c)) {oc : Value} {od : Option Addr} {vs : Array Value} {osl : Array (Option Value)} (lc : K.lookup c = some ⟨oc, od, .fields vs, osl⟩) (hv : vs[11]? = some (.ref P)) :
    PySem.W.CodeHd h c P ∧ h.get? P = some { cls := .none, data := .fields #[] } := by
  obtain ⟨d, hd, hn⟩ := List.any_eq_true.mp hr
  have hn : d.name = x := beq_iff_eq.mp hn
  obtain ⟨a, o, fd, c', P', h1, h2, h3, h4, h5, h6⟩ := T.tab d hd
  rw [hn, PySem.W.mg_of X T.g ns] at h1
  cases h1
  obtain ⟨oc1, od1, kV, doc, pm, an, ct, osl1, lk⟩ := D.lk
  have e2 := X _ _ lk
  rw [h2] at e2
  cases e2
  cases h3
  cases h4
  have h6' := h6
  obtain ⟨⟨oo, ws, g1, g2, g3, g4⟩, g5⟩ := h6'
  have e3 := X _ _ lc
  rw [g1] at e3
  cases e3
  cases g3
  rw [hv] at g4
  cases g4
  exact ⟨PySem.W.CodeHd.of h5 h6, g5⟩
/-- all the defs -/
inductive AllD (L : Lk) (g : Gb) (base : Heap) : Nat → List Str → Prop
  | nil {i : Nat} : AllD L g base i []
  | cons {i : Nat} {x : Str} {xs : List Str} : DefOk L g base i x → AllD L g base (i + 1) xs → AllD L g base i (x :: xs)
theorem AllD.get {xs : List Str} : ∀ {i : Nat}, AllD L g base i xs → ∀ j x, xs[j]? = some x → DefOk L g base (i + j) x := by
  induction xs with
  | nil =>
    intro i _ j x e
    simp at e
  | cons y ys ih =>
    intro i a j x e
    cases a with
    | cons d r =>
      cases j with
      | zero =>
        simp at e
        subst e
        exact d
      | succ j =>
        have := ih r j x (by simpa using e)
        rw [show i + 1 + j = i + (j + 1) by omega] at this
        exact this
theorem AllD.defs {xs : List Str} (a : AllD L g base 0 xs) (hx : g.fns ++ g.mfn = xs) : ∀ i x, (g.fns ++ g.mfn)[i]? = some x → DefOk L g base i x := fun i x e => by
  rw [hx] at e
  have := a.get i x e
  rwa [Nat.zero_add] at this
/-! ### classes -/
/-- a class of exceptions without own __init__ -/
structure ClsK (K : PySem.W.Frag) (x : Str) (C : Addr) : Prop where
  ns : PySem.W.nsIn K mainGlobals x = some (some (.ref C))
  kp : PySem.W.keepIn K (.ref C) = true
  sb : PySem.W.subIn K (.ref C) (.type "BaseException") = some true
  ty : PySem.W.typeIn K (.ref C) = some (.type "type")
  ic : PySem.W.isClsIn K C = true
theorem exm_of {C E : Addr} {b : Bool} (h1 : PySem.W.subIn K (.ref E) (.type "BaseException") = some true) (h2 : PySem.W.isClsIn K E = true) (h3 : PySem.W.typeIn K (.ref E) = some (.type "type")) (h4 : PySem.W.subIn K (.ref C) (.ref E) = some b) : PySem.W.exmOne K (.ref C) (.ref E) = some b := by
  have e1 : (PySem.W.subIn K (.ref E) (.type "BaseException") == some true) = true := by rw [h1] <;> rfl
  have e2 : ((PySem.W.clsIn K E).isSome && PySem.W.typeIn K (.ref E) == some (.type "type")) = true := by
    have h2' : (PySem.W.clsIn K E).isSome = true := h2
    rw [h2', h3] <;> rfl
  refine (if_pos e1).trans ?_
  exact (if_pos e2).trans h4
/-- an object of the written part is such a class, with __init__ of its own -/
def iniB (C : Addr) (bmB : List Value) (newId : String) (dt : Data) (sl : Array (Option Value)) : Bool := match dt with
  | .cls cd => (match cd.mro, sl.toList with
    | .ref C' :: bm, [_, _, _, _, some (.builtin n), _] => C' == C && n == newId && !cd.hasDel && cd.hasDict && PySem.W.excTail bmB bm
    | _, _ => false)
  | _ => false
theorem iniC_mk {C fI : Addr} {f : Str} {B B' newId initId : String} {bmF bmB : List Value} {dd : Option Addr} {dt : Data} {sl : Array (Option Value)} (FB : NewF B' newId initId bmF bmB) (SF : StoreFacts B bmB "object.__setattr__" "object")
    (lc : K.lookup C = some ⟨.type "type", dd, dt, sl⟩) (hb : iniB C bmB newId dt sl = true) (tak : PySem.W.takerIn K C f = some none) (sa : PySem.W.findIn K (.ref C) "__setattr__" = some (some (.builtin "object.__setattr__")))
    (exC : PySem.W.subIn K (.ref C) (.type "BaseException") = some true) (tyC : PySem.W.typeIn K (.ref C) = some (.type "type")) (kC : PySem.W.keepIn K (.ref C) = true) (ini : PySem.W.findIn K (.ref C) "__init__" = some (some (.ref fI)))
    (tI : PySem.W.typeIn K (.ref fI) = some (.type "function")) : IniC K C fI f := by
  unfold iniB at hb
  split at hb
  · next cd =>
    split at hb
    · next C' bm a1 a2 a3 a4 n a6 hm hs =>
      simp only [Bool.and_eq_true, beq_iff_eq, Bool.not_eq_true'] at hb
      obtain ⟨⟨⟨⟨b1, b2⟩, b3⟩, b4⟩, b5⟩ := hb
      have hcl : PySem.W.clsIn K C = some cd := by
        unfold PySem.W.clsIn
        rw [lc]
      refine ⟨⟨B, B', newId, initId, bmF, bmB, cd, FB, SF, ?_, ?_, hcl, b4⟩, tak, sa, exC, tyC, kC, ini, tI⟩
      · unfold PySem.W.excInitIn
        rw [lc]
        show (match cd.mro, sl.toList with
          | .ref C' :: bm, [_, _, _, _, some (.builtin n), _] => C' == C && n == newId && !cd.hasDel && PySem.W.excTail bmB bm
          | _, _ => false) = true
        rw [hm, hs]
        simp [b1, b2, b3, b5]
      · unfold PySem.W.excOver
        rw [hcl]
        simp only [Option.any_some]
        rw [hm]
        simp [b1, b5]
    · cases hb
  · cases hb
end
section
variable {K : PySem.W.Frag} {h : Heap} {mg : Str → Option Value} {L : Lk} {g : Gb}
theorem iniD_mk {C fI : Addr} {f self val qual : Str} {st : Stmt} {kV doc pm cdv ct oc : Value} {an od : Option Addr} {osl : Array (Option Value)} {p1 p2 p3 p4 : Pos} (T : IniC K C fI f)
    (l : K.lookup fI = some ⟨oc, od, .func (PySem.W.fnOf "__init__" qual (defArgs st) (defBody st) (defScope st) .none kV doc pm an cdv ct), osl⟩) (c : PySem.W.codeIn K cdv qual = true) (hb : defBody st = [.Assign [.Attribute (.Name self p1) f p2] (.Name val p3) p4])
    (hB : ∀ (kV doc pm : Value) (an : Option Addr) (cdv ct : Value) (us : List Value), us.length = [self, val].length → bindArgs (PySem.W.fnOf "__init__" qual (defArgs st) (defBody st) (defScope st) .none kV doc pm an cdv ct) ⟨us, []⟩ = pure ([self, val].zip us))
    (hs : C8.scC [self, val] [self, val] (defScope st) = true) (n1 : (self == ("__debug__" : Str)) = false) (n2 : (self == ("__classdict__" : Str)) = false) (n3 : (val == ("__debug__" : Str)) = false) (n4 : (val == ("__classdict__" : Str)) = false) : IniD K C f := by
  have S := C8.fnScope_by hs
  have v1 : Vis (defScope st) self := (S.par self (by simp)).elim .inl fun z => .inr (.inl z)
  have v2 : Vis (defScope st) val := (S.par val (by simp)).elim .inl fun z => .inr (.inl z)
  have B := hB kV doc pm an cdv ct
  rw [hb] at l B
  exact ⟨fI, self, val, qual, defArgs st, defScope st, .none, kV, doc, pm, cdv, ct, oc, an, od, osl, p1, p2, p3, p4, T, l, c, .all B, S, v1, v2, n1, n2, n3, n4⟩
/-- constants of the module -/
inductive AllC (L : Lk) : List (Str × D) → Prop
  | nil : AllC L []
  | cons {x : Str} {d : D} {r : List (Str × D)} : (∃ v u, L.mg x = some u ∧ L2.RelV v u ∧ ∀ ρ H, VRel L.K ρ H d v) → AllC L r → AllC L ((x, d) :: r)
theorem AllC.get : ∀ {l : List (Str × D)}, AllC L l → ∀ x d, l.lookup x = some d → ∃ v u, L.mg x = some u ∧ L2.RelV v u ∧ ∀ ρ H, VRel L.K ρ H d v
  | _, .nil, x, d, h => by simp at h
  | (y, e) :: r, .cons a b, x, d, h => by
    rw [List.lookup_cons] at h
    split at h
    · next hx =>
      cases h
      rw [show x = y by simpa using hx]
      exact a
    · exact AllC.get b x d h
theorem c_str {x : Str} {s : Str} {t : Tok} (X : K.In h) (G : h.Ns mainGlobals mg) (eM : L.mg = mg) (e : PySem.W.nsIn K mainGlobals x = some (some (.str s t))) : ∃ v u, L.mg x = some u ∧ L2.RelV v u ∧ ∀ ρ H, VRel L.K ρ H (.str s) v :=
  ⟨.str s, _, by rw [eM]; exact PySem.W.mg_of X G e, ⟨t, rfl⟩, fun _ _ => .str s⟩
theorem c_int {x : Str} {i : Int} {t : Tok} (X : K.In h) (G : h.Ns mainGlobals mg) (eM : L.mg = mg) (e : PySem.W.nsIn K mainGlobals x = some (some (.int i t))) : ∃ v u, L.mg x = some u ∧ L2.RelV v u ∧ ∀ ρ H, VRel L.K ρ H (.int i) v :=
  ⟨.int i, _, by rw [eM]; exact PySem.W.mg_of X G e, ⟨t, rfl⟩, fun _ _ => .int i⟩
/-- a constant that is a tuple of ints -/
def intsB : List Value → List Int → Bool
  | [], [] => true
  | .int i _ :: vs, j :: js => i == j && intsB vs js
  | _, _ => false
theorem intsB_vals : ∀ {vs : List Value} {js : List Int}, intsB vs js = true → Vals (js.map V.int) vs ∧ vs.length = js.length
  | [], [], _ => ⟨.nil, rfl⟩
  | .int i t :: vs, j :: js, h => by
    simp only [intsB, Bool.and_eq_true, beq_iff_eq] at h
    obtain ⟨rfl, h⟩ := h
    obtain ⟨a, b⟩ := intsB_vals h
    exact ⟨.cons ⟨t, rfl⟩ a, by rw [List.length_cons, List.length_cons, b]⟩
theorem c_tup {x : Str} {A : Addr} {od : Option Addr} {its : Array Value} {n : Nat} {sl : Array (Option Value)} {js : List Int} (X : K.In h) (G : h.Ns mainGlobals mg) (eM : L.mg = mg) (eK : L.K = K) (e : PySem.W.nsIn K mainGlobals x = some (some (.ref A)))
    (l : K.lookup A = some ⟨.type "tuple", od, .seq its n, sl⟩) (b : intsB its.toList js = true) (hz : js.length ≤ 1000) : ∃ v u, L.mg x = some u ∧ L2.RelV v u ∧ ∀ ρ H, VRel L.K ρ H (.tup (js.map D.int)) v := by
  obtain ⟨a, c⟩ := intsB_vals b
  refine ⟨.ref A, _, by rw [eM]; exact PySem.W.mg_of X G e, rfl, fun ρ H => .tup (vs := js.map V.int) (.inr ⟨_, its, n, by rw [eK]; exact l, rfl, rfl, ?_, a⟩) VRels.ints⟩
  rw [sizeLine_eq]
  have : its.size = js.length := by rw [← Array.length_toList]; exact c
  omega
inductive AllB (K : PySem.W.Frag) : List Str → Prop
  | nil : AllB K []
  | cons {x : Str} {r : List Str} : PySem.W.nsIn K mainGlobals x = some none → AllB K r → AllB K (x :: r)
theorem AllB.get (X : K.In h) (G : h.Ns mainGlobals mg) (eM : L.mg = mg) : ∀ {l : List Str}, AllB K l → ∀ x, x ∈ l → L.mg x = none
  | _, .nil, x, h => by cases h
  | _ :: _, .cons a b, x, hx => by
    rcases List.mem_cons.mp hx with rfl | hx
    · rw [eM]
      exact PySem.W.mg_none_of X G a
    · exact AllB.get X G eM b x hx
/-- the functions' values -/
inductive AllF (K : PySem.W.Frag) (L : Lk) : Nat → List Str → Prop
  | nil {i : Nat} : AllF K L i []
  | cons {i : Nat} {x : Str} {f : Addr} {r : List Str} : PySem.W.nsIn K mainGlobals x = some (some (.ref f)) → PySem.W.keepIn K (.ref f) = true → L.fa i = f → L.pg.dfl i = [] → AllF K L (i + 1) r → AllF K L i (x :: r)
theorem AllF.get (X : K.In h) (G : h.Ns mainGlobals mg) (eM : L.mg = mg) (eK : L.K = K) : ∀ {l : List Str} {i : Nat}, AllF K L i l → ∀ j x, l[j]? = some x → ∃ f, L.mg x = some (.ref f) ∧ PySem.W.keepIn L.K (.ref f) = true ∧ L.fa (i + j) = f ∧ L.pg.dfl (i + j) = []
  | _, _, .nil, j, x, h => by simp at h
  | _ :: _, i, .cons a k e e2 b, j, x, hx => by
    cases j with
    | zero =>
      simp at hx
      subst hx
      exact ⟨_, by rw [eM]; exact PySem.W.mg_of X G a, by rw [eK]; exact k, e, e2⟩
    | succ j =>
      have := AllF.get X G eM eK b j x (by simpa using hx)
      rw [show i + 1 + j = i + (j + 1) by omega] at this
      exact this
theorem AllF.at (X : K.In h) (G : h.Ns mainGlobals mg) (eM : L.mg = mg) (eK : L.K = K) {l : List Str} {x : Str} {i : Nat} (a : AllF K L 0 l) (e : l[i]? = some x) : ∃ f, L.mg x = some (.ref f) ∧ PySem.W.keepIn L.K (.ref f) = true ∧ L.fa i = f ∧ L.pg.dfl i = [] := by
  have := AllF.get X G eM eK a i x e
  rwa [Nat.zero_add] at this
end
/-- from the list's facts to all places -/
theorem all_get {α : Type} {p : Nat → α → Prop} : ∀ {l : List α} {i : Nat}, (∀ j (h : j < l.length), p (i + j) (l[j])) → ∀ j x, l[j]? = some x → p (i + j) x := fun {l i} h j x e => by
  obtain ⟨hj, rfl⟩ := List.getElem?_eq_some_iff.mp e
  exact h j hj
/-! ### classes with instances -/
inductive AllN (K : PySem.W.Frag) (C : Addr) : List Str → Prop
  | nil : AllN K C []
  | cons {x : Str} {r : List Str} : PySem.W.findIn K (.ref C) x = some none → AllN K C r → AllN K C (x :: r)
theorem AllN.get {K : PySem.W.Frag} {C : Addr} : ∀ {l : List Str}, AllN K C l → ∀ x, x ∈ l → NoAttr K C x
  | _, .nil, x, h => by cases h
  | _ :: _, .cons a b, x, hx => by
    rcases List.mem_cons.mp hx with rfl | hx
    · exact a
    · exact AllN.get b x hx
inductive AllM (K : PySem.W.Frag) (L : Lk) (C : Addr) (xs : List Str) : List (Str × Nat) → Prop
  | nil : AllM K L C xs []
  | cons {m : Str} {i : Nat} {r : List (Str × Nat)} : Meth K C m (L.fa i) → L.pg.dfl i = [] → (∃ x, xs[i]? = some x) → AllM K L C xs r → AllM K L C xs ((m, i) :: r)
theorem AllM.get {K : PySem.W.Frag} {L : Lk} {C : Addr} {xs : List Str} : ∀ {l : List (Str × Nat)}, AllM K L C xs l → ∀ m i, l.lookup m = some i → Meth K C m (L.fa i) ∧ L.pg.dfl i = [] ∧ ∃ x, xs[i]? = some x
  | _, .nil, m, i, h => by simp at h
  | (m', j) :: r, .cons a c0 c b, m, i, h => by
    rw [List.lookup_cons] at h
    split at h
    · next hx =>
      cases h
      rw [show m = m' by simpa using hx]
      exact ⟨a, c0, c⟩
    · exact AllM.get b m i h
theorem getD_of {l : List Str} {i : Nat} {x d : Str} (e : l[i]? = some x) : l.getD i d = x := by
  rw [List.getD_eq_getElem?_getD, e]
  rfl
end MX
/-! what the kit lacks for KeyError as a base -/
namespace MX
open PySem PySem.F
theorem newKey : NewF "LookupError" "LookupError.__new__" "LookupError.__init__" [.type "LookupError", .type "Exception", .type "BaseException", .type "object"] [.type "KeyError", .type "LookupError", .type "Exception", .type "BaseException", .type "object"] :=
  ⟨excBase_LookupError, by decide +kernel, by decide +kernel, by decide +kernel⟩
theorem storeKey : StoreFacts "KeyError" [.type "KeyError", .type "LookupError", .type "Exception", .type "BaseException", .type "object"] "object.__setattr__" "object" := by
  constructor
  case mro => kernel_rfl
  case slot =>
    refine .of (owner := "object") (n := "__setattr__") ?_ (by decide +kernel) (by decide +kernel) (by decide +kernel) (by first | exact .inl (by decide +kernel) | exact .inr (by decide +kernel)) ?_
    · rw [typeLookup_type, builtinLookup_eq_fast]
      kernel_rfl
    · rw [isSubtype_type]
      kernel_rfl
  case entry => exact entry_object_sa
  case kind => decide +kernel
  case split => decide +kernel
  case hasOwner => decide +kernel
  case args =>
    intro a b c
    unfold argsOk
    kernel_rfl
  case passes =>
    intro self
    kernel_rfl
end MX
namespace MX
open PySem PySem.Spec PyProof.Rows L2
/-! ### which exception is of which class: the link's table -/
def isbOf (rows : List (Str × List (Str × Bool))) (c t : Str) : Option Bool := match rows.lookup c with
  | some r => r.lookup t
  | none => none
theorem xb_ValueError : bootBuiltins "ValueError" = some (.type "ValueError") := by decide +kernel
theorem xb_IndexError : bootBuiltins "IndexError" = some (.type "IndexError") := by decide +kernel
theorem xb_KeyError : bootBuiltins "KeyError" = some (.type "KeyError") := by decide +kernel
theorem xb_OverflowError : bootBuiltins "OverflowError" = some (.type "OverflowError") := by decide +kernel
theorem xb_LookupError : bootBuiltins "LookupError" = some (.type "LookupError") := by decide +kernel
theorem xb_ArithmeticError : bootBuiltins "ArithmeticError" = some (.type "ArithmeticError") := by decide +kernel
section
variable {K : PySem.W.Frag} {mg : Str → Option Value} {C C' : Addr} {b : Bool}
theorem kit_own (h1 : PySem.W.isClsIn K C' = true) (h2 : PySem.W.typeIn K (.ref C') = some (.type "type")) (hr : PySem.W.subIn K (.ref C) (.ref C) = some true) (h4 : PySem.W.subIn K (.ref C) (.ref C') = some b) : PySem.W.kitOne K (.ref C) (.ref C') = some b := by
  unfold PySem.W.kitOne
  by_cases h : (Value.ref C == Value.ref C') = true
  · rw [if_pos h]
    have e : C = C' := by simpa using h
    subst e
    rw [hr] at h4
    exact h4
  · rw [if_neg h]
    unfold PySem.W.kitCls
    have h1' : (PySem.W.clsIn K C').isSome = true := h1
    show (if ((PySem.W.clsIn K C').isSome && PySem.W.typeIn K (.ref C') == some (.type "type")) = true then _ else _) = _
    rw [if_pos (by rw [h1', h2]; rfl)]
    exact h4
theorem kit_bt {T : String} (hm : PySem.W.kitMeta T = true) (h : PySem.W.subIn K (.ref C) (.type T) = some b) : PySem.W.kitOne K (.ref C) (.type T) = some b := by
  unfold PySem.W.kitOne
  rw [if_neg (by rw [show (Value.ref C == Value.type T) = false from rfl]; decide)]
  show (if PySem.W.kitMeta T = true then _ else _) = _
  rw [if_pos hm]
  exact h
inductive RowX (K : PySem.W.Frag) (mg : Str → Option Value) (C : Addr) : List (Str × Bool) → Prop
  | nil : RowX K mg C []
  | own {t : Str} {b : Bool} {C' : Addr} {r : List (Str × Bool)} : mg t = some (.ref C') → PySem.W.kitOne K (.ref C) (.ref C') = some b → RowX K mg C r → RowX K mg C ((t, b) :: r)
  | bt {t : Str} {b : Bool} {T : String} {r : List (Str × Bool)} : mg t = none → bootBuiltins t = some (.type T) → PySem.W.kitOne K (.ref C) (.type T) = some b → RowX K mg C r → RowX K mg C ((t, b) :: r)
theorem RowX.get : ∀ {r : List (Str × Bool)}, RowX K mg C r → ∀ t b, r.lookup t = some b →
    (∃ C', mg t = some (.ref C') ∧ PySem.W.kitOne K (.ref C) (.ref C') = some b) ∨ (mg t = none ∧ ∃ T, bootBuiltins t = some (.type T) ∧ PySem.W.kitOne K (.ref C) (.type T) = some b)
  | _, .nil, t, b, h => by cases h
  | (t', b') :: r, .own m k q, t, b, h => by
    rw [List.lookup_cons] at h
    split at h
    · next e =>
      cases h
      rw [show t = t' by simpa using e]
      exact .inl ⟨_, m, k⟩
    · exact RowX.get q t b h
  | (t', b') :: r, .bt m bo k q, t, b, h => by
    rw [List.lookup_cons] at h
    split at h
    · next e =>
      cases h
      rw [show t = t' by simpa using e]
      exact .inr ⟨m, _, bo, k⟩
    · exact RowX.get q t b h
inductive RowsX (K : PySem.W.Frag) (mg : Str → Option Value) : List (Str × List (Str × Bool)) → Prop
  | nil : RowsX K mg []
  | cons {c : Str} {C : Addr} {row : List (Str × Bool)} {r : List (Str × List (Str × Bool))} : PySem.W.nsIn K mainGlobals c = some (some (.ref C)) → ExcC K C → RowX K mg C row → RowsX K mg r → RowsX K mg ((c, row) :: r)
theorem RowsX.get : ∀ {rows : List (Str × List (Str × Bool))}, RowsX K mg rows → ∀ c t b, isbOf rows c t = some b → ∃ C, PySem.W.nsIn K mainGlobals c = some (some (.ref C)) ∧ ExcC K C ∧
    ((∃ C', mg t = some (.ref C') ∧ PySem.W.kitOne K (.ref C) (.ref C') = some b) ∨ (mg t = none ∧ ∃ T, bootBuiltins t = some (.type T) ∧ PySem.W.kitOne K (.ref C) (.type T) = some b))
  | _, .nil, c, t, b, h => by cases h
  | (c', row) :: r, .cons n T q rest, c, t, b, h => by
    unfold isbOf at h
    rw [List.lookup_cons] at h
    by_cases e : (c == c') = true
    · rw [e] at h
      rw [show c = c' by simpa using e]
      exact ⟨_, n, T, q.get t b h⟩
    · simp only [e] at h
      exact RowsX.get rest c t b h
inductive XfX (K : PySem.W.Frag) : List (Str × Str) → Prop
  | nil : XfX K []
  | cons {c f : Str} {C : Addr} {r : List (Str × Str)} : PySem.W.nsIn K mainGlobals c = some (some (.ref C)) → XfC K C → PySem.W.findIn K (.ref C) f = some none → XfX K r → XfX K ((c, f) :: r)
theorem XfX.get : ∀ {l : List (Str × Str)}, XfX K l → ∀ c f, (l.lookup c == some f) = true → ∃ C, PySem.W.nsIn K mainGlobals c = some (some (.ref C)) ∧ XfC K C ∧ PySem.W.findIn K (.ref C) f = some none
  | _, .nil, c, f, h => by cases h
  | (c', f') :: r, .cons n T no rest, c, f, h => by
    rw [List.lookup_cons] at h
    by_cases e : (c == c') = true
    · rw [e] at h
      rw [show c = c' by simpa using e]
      have : f' = f := by simpa using h
      subst this
      exact ⟨_, n, T, no⟩
    · simp only [e] at h
      exact XfX.get rest c f h
end
end MX
namespace K00
open PySem PySem.Spec PyProof.Rows L2 MX
def topS (i : Nat) : Stmt := PySem.Challenge.pw_timesdear_k00_errors.main.body.getD i (.Pass ⟨0, 0, 0, 0⟩)
def gb : Gb := { fns := [(Str.ofString "_wall"), (Str.ofString "is_integer"), (Str.ofString "is_between"), (Str.ofString "is_name"), (Str.ofString "common_divisor"), (Str.ofString "is_fraction"), (Str.ofString "require_fraction"), (Str.ofString "less_than"), (Str.ofString "compared"), (Str.ofString "are_tables"), (Str.ofString "are_keys"), (Str.ofString "is_cap"), (Str.ofString "ascending_dict"), (Str.ofString "checked_caps"), (Str.ofString "require_table"), (Str.ofString "_law_start"), (Str.ofString "_law_throw"), (Str.ofString "_law_pick"), (Str.ofString "_law_told"), (Str.ofString "_law_flags"), (Str.ofString "_law_bases"), (Str.ofString "_law_only"), (Str.ofString "_law_messages_right"), (Str.ofString "_law_values_right"), (Str.ofString "_law_taken"), (Str.ofString "law")], gc := [("LETTERS", (.str (Str.ofString "abcdefghijklmnopqrstuvwxyz"))), ("MOST_LETTERS", (.int 8)), ("LESS", (.str (Str.ofString "less"))), ("EQUAL", (.str (Str.ofString "equal"))), ("GREATER", (.str (Str.ofString "greater"))), ("MAX_TABLES", (.int 8)), ("MAX_PLACES", (.int 3)), ("MAX_CAPS", (.int 6)), ("MOST_CAP", (.int 99))], bl := [(Str.ofString "len"), (Str.ofString "abs"), (Str.ofString "max"), (Str.ofString "min"), (Str.ofString "int"), (Str.ofString "list"), (Str.ofString "tuple"), (Str.ofString "repr"), (Str.ofString "all"), (Str.ofString "isinstance"), (Str.ofString "bool"), (Str.ofString "str"), (Str.ofString "dict"), (Str.ofString "range"), (Str.ofString "enumerate"), (Str.ofString "sorted"), (Str.ofString "ValueError"), (Str.ofString "IndexError"), (Str.ofString "KeyError"), (Str.ofString "OverflowError"), (Str.ofString "LookupError"), (Str.ofString "ArithmeticError")], cls := ["DearError", "InvalidSchema", "InvalidRow", "InvalidStore", "InvalidQuestion", "InvalidPattern", "InvalidOperation", "InvalidEdit", "ParseError", "InvalidCommand", "InvalidNumber", "UnknownName", "TooMany", "Missing", "NothingToUndo"], ini := [none, none, none, none, none, none, none, none, none, none, some 0, some 1, some 2, some 3, some 4], fld := ["value", "name", "limit", "answer", "many"], thks := ["_law_taken"], mfn := [(Str.ofString "Schema.__init__")], ifl := [(Str.ofString "own_caps"), (Str.ofString "own_tables"), (Str.ofString "own_keys"), (Str.ofString "value"), (Str.ofString "name"), (Str.ofString "limit"), (Str.ofString "answer"), (Str.ofString "many")], mns := [], icn := [(Str.ofString "Schema")], xv := true, hots := ["_law_flags"] }
def b0 : CSs := (.cons (.whileS (.con (.bl true)) (.cons .pass .nil)) .nil)
abbrev d0 : FD := ⟨false, 1, 1, b0, none⟩
def b1 : CSs := (.cons (.ret (.andE (.isi (.slot 0) .int) (.notE (.isi (.slot 0) .bool)))) .nil)
abbrev d1 : FD := ⟨false, 1, 1, b1, none⟩
def b2 : CSs := (.cons (.ret (.andE (.call 1 (.cons (.slot 0) .nil)) (.andE (.cmp .le (.slot 1) (.slot 0)) (.orE (.isN (.slot 2)) (.cmp .le (.slot 0) (.slot 2)))))) .nil)
abbrev d2 : FD := ⟨false, 3, 3, b2, none⟩
def b3 : CSs := (.cons (.ret (.andE (.isi (.slot 0) .str) (.andE (.chain .le .le (.con (.int (1))) (.bt .len (.cons (.slot 0) .nil)) (.con (.int (8)))) (.bt .all (.cons (.comp (.cmp .isin (.slot 1) (.con (.str (Str.ofString "abcdefghijklmnopqrstuvwxyz")))) [1] (.name 1) (.seq (.slot 0)) .nil) .nil))))) .nil)
abbrev d3 : FD := ⟨false, 1, 2, b3, none⟩
def b4 : CSs := (.cons (.whileS (.cmp .ne (.slot 1) (.con (.int (0)))) (.cons (.par [0, 1] (.cons (.slot 1) (.cons (.bin .mod (.slot 0) (.slot 1)) .nil))) .nil)) (.cons (.ret (.slot 0)) .nil))
abbrev d4 : FD := ⟨false, 2, 2, b4, none⟩
def b5 : CSs := (.cons (.ifS (.orE (.notE (.isi (.slot 0) .tuple)) (.orE (.cmp .ne (.bt .len (.cons (.slot 0) .nil)) (.con (.int (2)))) (.notE (.call 2 (.cons (.idx (.slot 0) (.con (.int (0)))) (.cons (.con (.int (0))) (.cons (.con .non) .nil))))))) (.cons (.ret (.con (.bl false))) .nil) .nil) (.cons (.ret (.andE (.call 2 (.cons (.idx (.slot 0) (.con (.int (1)))) (.cons (.con (.int (1))) (.cons (.con .non) .nil)))) (.cmp .eq (.call 4 (.cons (.idx (.slot 0) (.con (.int (0)))) (.cons (.idx (.slot 0) (.con (.int (1)))) .nil))) (.con (.int (1)))))) .nil))
abbrev d5 : FD := ⟨false, 1, 1, b5, none⟩
def b6 : CSs := (.cons (.ifS (.notE (.call 5 (.cons (.slot 0) .nil))) (.cons (.raiseM 6) .nil) .nil) .nil)
abbrev d6 : FD := ⟨false, 1, 1, b6, none⟩
def b7 : CSs := (.cons (.ret (.cmp .lt (.bin .mul (.idx (.slot 0) (.con (.int (0)))) (.idx (.slot 1) (.con (.int (1))))) (.bin .mul (.idx (.slot 1) (.con (.int (0)))) (.idx (.slot 0) (.con (.int (1))))))) .nil)
abbrev d7 : FD := ⟨false, 2, 2, b7, none⟩
def b8 : CSs := (.cons (.expr (.call 6 (.cons (.slot 0) .nil))) (.cons (.expr (.call 6 (.cons (.slot 1) .nil))) (.cons (.ifS (.cmp .eq (.slot 0) (.slot 1)) (.cons (.ret (.con (.str (Str.ofString "equal")))) .nil) .nil) (.cons (.ret (.ife (.call 7 (.cons (.slot 0) (.cons (.slot 1) .nil))) (.con (.str (Str.ofString "less"))) (.con (.str (Str.ofString "greater"))))) .nil))))
abbrev d8 : FD := ⟨false, 2, 2, b8, none⟩
def b9 : CSs := (.cons (.ifS (.orE (.notE (.isi (.slot 0) .dict)) (.notE (.chain .le .le (.con (.int (1))) (.bt .len (.cons (.slot 0) .nil)) (.con (.int (8)))))) (.cons (.ret (.con (.bl false))) .nil) .nil) (.cons (.ret (.bt .all (.cons (.comp (.andE (.call 3 (.cons (.slot 1) .nil)) (.call 2 (.cons (.idx (.slot 0) (.slot 1)) (.cons (.con (.int (0))) (.cons (.con (.int (3))) .nil))))) [1] (.name 1) (.seq (.slot 0)) .nil) .nil))) .nil))
abbrev d9 : FD := ⟨false, 1, 2, b9, none⟩
def b10 : CSs := (.cons (.ifS (.orE (.notE (.isi (.slot 1) .dict)) (.notE (.bt .all (.cons (.comp (.andE (.call 3 (.cons (.slot 2) .nil)) (.cmp .isin (.slot 2) (.slot 0))) [2] (.name 2) (.seq (.slot 1)) .nil) .nil)))) (.cons (.ret (.con (.bl false))) .nil) .nil) (.cons (.ret (.bt .all (.cons (.comp (.call 2 (.cons (.idx (.slot 1) (.slot 2)) (.cons (.con (.int (0))) (.cons (.idx (.slot 0) (.slot 2)) .nil)))) [2] (.name 2) (.seq (.slot 1)) .nil) .nil))) .nil))
abbrev d10 : FD := ⟨false, 2, 3, b10, none⟩
def b11 : CSs := (.cons (.ifS (.orE (.notE (.isi (.slot 1) .tuple)) (.cmp .ne (.bt .len (.cons (.slot 1) .nil)) (.con (.int (4))))) (.cons (.ret (.con (.bl false))) .nil) .nil) (.cons (.asg (.tup (.cons (.name 2) (.cons (.name 3) (.cons (.name 4) (.cons (.name 5) .nil))))) (.slot 1)) (.cons (.ifS (.orE (.notE (.call 2 (.cons (.slot 2) (.cons (.con (.int (1))) (.cons (.con (.int (99))) .nil))))) (.notE (.call 2 (.cons (.slot 4) (.cons (.con (.int (1))) (.cons (.con (.int (99))) .nil)))))) (.cons (.ret (.con (.bl false))) .nil) .nil) (.cons (.ret (.bt .all (.cons (.comp (.andE (.call 3 (.cons (.slot 6) .nil)) (.cmp .isin (.slot 6) (.slot 0))) [6] (.name 6) (.seq (.tup (.cons (.slot 3) (.cons (.slot 5) .nil)))) .nil) .nil))) .nil))))
abbrev d11 : FD := ⟨false, 2, 7, b11, none⟩
def b12 : CSs := (.cons (.ret (.dcomp (.slot 1) (.idx (.slot 0) (.slot 1)) [1] (.name 1) (.seq (.bt .sorted (.cons (.bt .list (.cons (.slot 0) .nil)) .nil))))) .nil)
abbrev d12 : FD := ⟨false, 1, 2, b12, none⟩
def b13 : CSs := (.cons (.ifS (.orE (.notE (.isi (.slot 1) .tuple)) (.notE (.bt .all (.cons (.comp (.call 11 (.cons (.slot 0) (.cons (.slot 3) .nil))) [3] (.name 3) (.seq (.slot 1)) .nil) .nil)))) (.cons (.raiseM 1) .nil) .nil) (.cons (.asg (.name 2) (.dcomp (.slot 3) (.con (.bl true)) [3] (.name 3) (.seq (.slot 1)))) (.cons (.ifS (.cmp .gt (.bt .len (.cons (.slot 2) .nil)) (.con (.int (6)))) (.cons (.raiseM 1) .nil) .nil) (.cons (.ret (.bt .tuple (.cons (.bt .sorted (.cons (.bt .list (.cons (.slot 2) .nil)) .nil)) .nil))) .nil))))
abbrev d13 : FD := ⟨false, 2, 4, b13, none⟩
def b14 : CSs := (.cons (.ifS (.cmp .notin (.slot 1) (.slot 0)) (.cons (.raiseI 11 1 (.slot 1)) .nil) .nil) .nil)
abbrev d14 : FD := ⟨false, 2, 2, b14, none⟩
def b15 : CSs := (.cons (.asg (.name 2) (.ife (.cmp .lt (.slot 1) (.bt .len (.cons (.slot 0) .nil))) (.idx (.slot 0) (.slot 1)) (.bin .add (.bin .mul (.con (.int (31))) (.slot 1)) (.con (.int (7)))))) (.cons (.asg (.name 3) (.bin .mod (.bt .int (.cons (.bt .abs (.cons (.slot 2) .nil)) .nil)) (.bin .pow (.bin .pow (.con (.int (10))) (.con (.int (61)))) (.con (.int (11)))))) (.cons (.asg (.name 4) (.bin .add (.bin .add (.bin .add (.bin .mul (.bin .mod (.bt .int (.cons (.slot 3) .nil)) (.con (.int (2147483563)))) (.con (.int (39373)))) (.bin .mul (.con (.int (3001))) (.slot 1))) (.bin .mul (.con (.int (11))) (.bt .int (.cons (.cmp .lt (.slot 2) (.con (.int (0)))) .nil)))) (.con (.int (23))))) (.cons (.ret (.lst (.cons (.bt .max (.cons (.con (.int (0))) (.cons (.bin .sub (.slot 3) (.bin .pow (.con (.int (10))) (.con (.int (18))))) .nil))) (.cons (.bin .mod (.bt .int (.cons (.slot 4) .nil)) (.con (.int (2147483399)))) (.cons (.con (.int (0))) .nil))))) .nil))))
abbrev d15 : FD := ⟨false, 2, 5, b15, none⟩
def b16 : CSs := (.cons (.ifS (.cmp .gt (.idx (.slot 0) (.con (.int (0)))) (.con (.int (0)))) (.cons (.asg (.name 4) (.bin .mod (.bt .int (.cons (.idx (.slot 0) (.con (.int (0)))) .nil)) (.slot 1))) (.cons (.sets (.slot 0) (.con (.int (0))) (.bin .fdiv (.idx (.slot 0) (.con (.int (0)))) (.slot 1))) (.cons (.ret (.slot 4)) .nil))) .nil) (.cons (.sets (.slot 0) (.con (.int (2))) (.bin .add (.idx (.slot 0) (.con (.int (2)))) (.con (.int (1))))) (.cons (.asg (.name 2) (.bin .mod (.bt .int (.cons (.bin .add (.idx (.slot 0) (.con (.int (1)))) (.bin .mul (.con (.int (1000357))) (.idx (.slot 0) (.con (.int (2)))))) .nil)) (.con (.int (2305843009213693951))))) (.cons (.asg (.name 3) (.bin .add (.bin .mul (.bin .mod (.bt .int (.cons (.bin .mul (.slot 2) (.slot 2)) .nil)) (.con (.int (2305843009213693907)))) (.slot 2)) (.bin .mul (.con (.int (7919))) (.idx (.slot 0) (.con (.int (2))))))) (.cons (.asg (.name 3) (.bin .mod (.bt .int (.cons (.slot 3) .nil)) (.con (.int (2305843009213693921))))) (.cons (.ret (.bin .mod (.bt .int (.cons (.bin .fdiv (.slot 3) (.con (.int (4096)))) .nil)) (.slot 1))) .nil))))))
abbrev d16 : FD := ⟨false, 2, 5, b16, none⟩
def b17 : CSs := (.cons (.ret (.idx (.slot 1) (.call 16 (.cons (.slot 0) (.cons (.bt .len (.cons (.slot 1) .nil)) .nil))))) .nil)
abbrev d17 : FD := ⟨false, 2, 2, b17, none⟩
def b18 : CSs := (.cons (.asg (.name 1) (.lst (.cons (.mkx (Str.ofString "InvalidSchema") (Str.ofString "InvalidSchema") false (.slot 0)) (.cons (.mkx (Str.ofString "InvalidRow") (Str.ofString "InvalidRow") false (.slot 0)) (.cons (.mkx (Str.ofString "InvalidStore") (Str.ofString "InvalidStore") false (.slot 0)) (.cons (.mkx (Str.ofString "InvalidQuestion") (Str.ofString "InvalidQuestion") false (.slot 0)) .nil)))))) (.cons (.asg (.name 1) (.bin .add (.slot 1) (.lst (.cons (.mkx (Str.ofString "InvalidPattern") (Str.ofString "InvalidPattern") false (.slot 0)) (.cons (.mkx (Str.ofString "InvalidOperation") (Str.ofString "InvalidOperation") false (.slot 0)) (.cons (.mkx (Str.ofString "InvalidEdit") (Str.ofString "InvalidEdit") false (.slot 0)) (.cons (.mkx (Str.ofString "ParseError") (Str.ofString "ParseError") false (.slot 0)) .nil))))))) (.cons (.ret (.bin .add (.slot 1) (.lst (.cons (.mkx (Str.ofString "InvalidCommand") (Str.ofString "InvalidCommand") false (.slot 0)) .nil)))) .nil)))
abbrev d18 : FD := ⟨false, 1, 2, b18, none⟩
def b19 : CSs := (.cons (.asg (.name 1) (.lst (.cons (.isx (.slot 0) (Str.ofString "InvalidSchema")) (.cons (.isx (.slot 0) (Str.ofString "InvalidRow")) (.cons (.isx (.slot 0) (Str.ofString "InvalidStore")) .nil))))) (.cons (.asg (.name 1) (.bin .add (.slot 1) (.lst (.cons (.isx (.slot 0) (Str.ofString "InvalidQuestion")) (.cons (.isx (.slot 0) (Str.ofString "InvalidPattern")) .nil))))) (.cons (.asg (.name 1) (.bin .add (.slot 1) (.lst (.cons (.isx (.slot 0) (Str.ofString "InvalidOperation")) (.cons (.isx (.slot 0) (Str.ofString "InvalidEdit")) (.cons (.isx (.slot 0) (Str.ofString "ParseError")) .nil)))))) (.cons (.asg (.name 1) (.bin .add (.slot 1) (.lst (.cons (.isx (.slot 0) (Str.ofString "InvalidCommand")) (.cons (.isx (.slot 0) (Str.ofString "InvalidNumber")) (.cons (.isx (.slot 0) (Str.ofString "UnknownName")) .nil)))))) (.cons (.ret (.bin .add (.slot 1) (.lst (.cons (.isx (.slot 0) (Str.ofString "TooMany")) (.cons (.isx (.slot 0) (Str.ofString "Missing")) (.cons (.isx (.slot 0) (Str.ofString "NothingToUndo")) .nil)))))) .nil)))))
def hb19 : CSs := (.cons (.asg (.name 1) (.lst (.cons (.xis (Str.ofString "InvalidSchema")) (.cons (.xis (Str.ofString "InvalidRow")) (.cons (.xis (Str.ofString "InvalidStore")) .nil))))) (.cons (.asg (.name 1) (.bin .add (.slot 1) (.lst (.cons (.xis (Str.ofString "InvalidQuestion")) (.cons (.xis (Str.ofString "InvalidPattern")) .nil))))) (.cons (.asg (.name 1) (.bin .add (.slot 1) (.lst (.cons (.xis (Str.ofString "InvalidOperation")) (.cons (.xis (Str.ofString "InvalidEdit")) (.cons (.xis (Str.ofString "ParseError")) .nil)))))) (.cons (.asg (.name 1) (.bin .add (.slot 1) (.lst (.cons (.xis (Str.ofString "InvalidCommand")) (.cons (.xis (Str.ofString "InvalidNumber")) (.cons (.xis (Str.ofString "UnknownName")) .nil)))))) (.cons (.ret (.bin .add (.slot 1) (.lst (.cons (.xis (Str.ofString "TooMany")) (.cons (.xis (Str.ofString "Missing")) (.cons (.xis (Str.ofString "NothingToUndo")) .nil)))))) .nil)))))
abbrev d19 : FD := ⟨false, 1, 2, b19, some hb19⟩
def b20 : CSs := (.cons (.asg (.name 1) (.lst (.cons (.isx (.slot 0) (Str.ofString "DearError")) (.cons (.isx (.slot 0) (Str.ofString "ValueError")) (.cons (.isx (.slot 0) (Str.ofString "IndexError")) .nil))))) (.cons (.asg (.name 1) (.bin .add (.slot 1) (.lst (.cons (.isx (.slot 0) (Str.ofString "KeyError")) (.cons (.isx (.slot 0) (Str.ofString "OverflowError")) (.cons (.isx (.slot 0) (Str.ofString "LookupError")) .nil)))))) (.cons (.ret (.bin .add (.slot 1) (.lst (.cons (.isx (.slot 0) (Str.ofString "ArithmeticError")) .nil)))) .nil)))
abbrev d20 : FD := ⟨false, 1, 2, b20, none⟩
def b21 : CSs := (.cons (.ret (.comp (.cmp .isin (.slot 2) (.slot 0)) [2] (.name 2) (.rng (.slot 1)) .nil)) .nil)
abbrev d21 : FD := ⟨false, 2, 3, b21, none⟩
def b22 : CSs := (.cons (.ifS (.orE (.cmp .ne (.call 19 (.cons (.mkx (Str.ofString "DearError") (Str.ofString "DearError") false (.slot 0)) .nil)) (.bin .mul (.lst (.cons (.con (.bl false)) .nil)) (.con (.int (14))))) (.cmp .ne (.call 20 (.cons (.mkx (Str.ofString "DearError") (Str.ofString "DearError") false (.slot 0)) .nil)) (.call 21 (.cons (.tup (.cons (.con (.int (0))) (.cons (.con (.int (1))) .nil))) (.cons (.con (.int (7))) .nil))))) (.cons (.ret (.con (.bl false))) .nil) .nil) (.cons (.forS (.tup (.cons (.name 1) (.cons (.name 2) .nil))) (.enm (.call 18 (.cons (.slot 0) .nil))) (.cons (.ifS (.orE (.cmp .ne (.call 19 (.cons (.slot 2) .nil)) (.call 21 (.cons (.tup (.cons (.slot 1) .nil)) (.cons (.con (.int (14))) .nil)))) (.cmp .ne (.call 20 (.cons (.slot 2) .nil)) (.call 21 (.cons (.tup (.cons (.con (.int (0))) (.cons (.con (.int (1))) .nil))) (.cons (.con (.int (7))) .nil))))) (.cons (.ret (.con (.bl false))) .nil) .nil) .nil)) (.cons (.ret (.con (.bl true))) .nil)))
abbrev d22 : FD := ⟨false, 1, 3, b22, none⟩
def b23 : CSs := (.cons (.asg (.name 1) (.lst (.cons (.neg (.con (.int (1)))) (.cons (.con (.int (9))) (.cons (.con .non) (.cons (.con (.bl true)) (.cons (.con (.str (Str.ofString "no"))) (.cons (.tup .nil) (.cons (.lst (.cons (.con (.int (1))) .nil)) (.cons (.disp (.str (Str.ofString "a")) (.int (1))) (.cons (.bin .pow (.con (.int (10))) (.con (.int (39)))) (.cons (.tup (.cons (.con (.str (Str.ofString "r"))) (.cons (.con (.int (1))) (.cons (.con (.int (2))) .nil)))) .nil)))))))))))) (.cons (.asg (.name 2) (.lst (.cons (.call 17 (.cons (.slot 0) (.cons (.slot 1) .nil))) (.cons (.call 17 (.cons (.slot 0) (.cons (.slot 1) .nil))) (.cons (.call 17 (.cons (.slot 0) (.cons (.lst (.cons (.con (.int (4))) (.cons (.con (.int (8))) (.cons (.con (.int (20))) (.cons (.con (.int (64))) (.cons (.con (.int (200))) .nil)))))) .nil))) .nil))))) (.cons (.expr (.bm .append (.slot 2) (.cons (.call 17 (.cons (.slot 0) (.cons (.lst (.cons (.tup .nil) (.cons (.tup (.cons (.con (.int (7))) .nil)) (.cons (.tup (.cons (.neg (.con (.int (1)))) (.cons (.bin .pow (.con (.int (10))) (.con (.int (39)))) .nil))) (.cons (.tup (.cons (.con (.str (Str.ofString "fee"))) .nil)) (.cons (.tup (.cons (.con (.str (Str.ofString "r"))) (.cons (.con (.int (1))) (.cons (.con (.int (2))) .nil)))) (.cons (.tup (.cons (.con (.str (Str.ofString "s"))) (.cons (.bin .sub (.con (.int (0))) (.bin .pow (.con (.int (10))) (.con (.int (39))))) .nil))) .nil))))))) .nil))) .nil))) (.cons (.expr (.bm .append (.slot 2) (.cons (.call 17 (.cons (.slot 0) (.cons (.lst (.cons (.con (.int (1))) (.cons (.con (.int (2))) (.cons (.con (.int (7))) (.cons (.con (.int (61))) (.cons (.bin .pow (.con (.int (10))) (.con (.int (39)))) .nil)))))) .nil))) .nil))) (.cons (.asg (.name 3) (.lst (.cons (.mkx (Str.ofString "InvalidNumber") (Str.ofString "value") true (.idx (.slot 2) (.con (.int (0))))) (.cons (.mkx (Str.ofString "UnknownName") (Str.ofString "name") true (.idx (.slot 2) (.con (.int (1))))) (.cons (.mkx (Str.ofString "TooMany") (Str.ofString "limit") true (.idx (.slot 2) (.con (.int (2))))) (.cons (.mkx (Str.ofString "Missing") (Str.ofString "answer") true (.idx (.slot 2) (.con (.int (3))))) (.cons (.mkx (Str.ofString "NothingToUndo") (Str.ofString "many") true (.idx (.slot 2) (.con (.int (4))))) .nil))))))) (.cons (.asg (.name 4) (.lst (.cons (.tup (.cons (.con (.int (2))) (.cons (.con (.int (5))) .nil))) (.cons (.tup (.cons (.con (.int (3))) (.cons (.con (.int (5))) .nil))) (.cons (.tup (.cons (.con (.int (4))) (.cons (.con (.int (6))) .nil))) (.cons (.tup (.cons (.con (.int (5))) .nil)) (.cons (.tup (.cons (.con (.int (6))) .nil)) .nil))))))) (.cons (.forS (.tup (.cons (.name 6) (.cons (.name 7) .nil))) (.enm (.slot 3)) (.cons (.ifS (.orE (.cmp .ne (.call 19 (.cons (.slot 7) .nil)) (.call 21 (.cons (.tup (.cons (.bin .add (.con (.int (9))) (.slot 6)) .nil)) (.cons (.con (.int (14))) .nil)))) (.cmp .ne (.call 20 (.cons (.slot 7) .nil)) (.call 21 (.cons (.idx (.slot 4) (.slot 6)) (.cons (.con (.int (7))) .nil))))) (.cons (.ret (.con (.bl false))) .nil) .nil) .nil)) (.cons (.asg (.name 5) (.lst (.cons (.fld (Str.ofString "value") (.idx (.slot 3) (.con (.int (0))))) (.cons (.fld (Str.ofString "name") (.idx (.slot 3) (.con (.int (1))))) (.cons (.fld (Str.ofString "limit") (.idx (.slot 3) (.con (.int (2))))) (.cons (.fld (Str.ofString "answer") (.idx (.slot 3) (.con (.int (3))))) (.cons (.fld (Str.ofString "many") (.idx (.slot 3) (.con (.int (4))))) .nil))))))) (.cons (.ret (.cmp .eq (.bt .repr (.cons (.slot 5) .nil)) (.bt .repr (.cons (.slot 2) .nil)))) .nil)))))))))
abbrev d23 : FD := ⟨false, 1, 8, b23, none⟩
def b24 : CSs := (.cons (.tryS (.cons (.expr .act) .nil) (.cons 0 (some 1) (.cons (.ret (.hcl 19)) .nil) .nil)) (.cons (.ret (.lst .nil)) .nil))
abbrev d24 : FD := ⟨true, 1, 2, b24, none⟩
def b25 : CSs := (.cons (.forS (.name 1) (.rng (.bt .max (.cons (.con (.int (1))) (.cons (.bt .min (.cons (.con (.int (8))) (.cons (.bt .len (.cons (.slot 0) .nil)) .nil))) .nil)))) (.cons (.asg (.name 2) (.call 15 (.cons (.slot 0) (.cons (.slot 1) .nil)))) (.cons (.ifS (.notE (.call 22 (.cons (.call 17 (.cons (.slot 2) (.cons (.lst (.cons (.con (.str (Str.ofString ""))) (.cons (.con (.str (Str.ofString "a name is expected"))) (.cons (.con (.str (Str.ofString "no"))) (.cons (.con (.str (Str.ofString "r(1,2)"))) (.cons (.con (.str (Str.ofString " "))) (.cons (.con (.str (Str.ofString "1"))) .nil))))))) .nil))) .nil))) (.cons (.ret (.con (.bl false))) .nil) .nil) (.cons (.asg (.name 3) (.call 17 (.cons (.slot 2) (.cons (.lst (.cons (.con .non) (.cons (.tup .nil) (.cons .edct (.cons (.lst .nil) (.cons (.con (.str (Str.ofString "r"))) (.cons (.con (.int (7))) (.cons (.con (.bl true)) (.cons (.disp (.str (Str.ofString "R")) (.int (1))) (.cons (.disp (.str (Str.ofString "r")) (.int (4))) (.cons (.disp (.str (Str.ofString "r")) (.bl true)) (.cons (.tup (.cons (.con (.int (2))) (.cons (.con (.int (4))) .nil))) (.cons (.tup (.cons (.con (.int (0))) (.cons (.con (.int (2))) .nil))) (.cons (.tup (.cons (.neg (.con (.int (1)))) (.cons (.con (.int (1))) .nil))) .nil)))))))))))))) .nil)))) (.cons (.ifS (.notE (.call 23 (.cons (.slot 2) .nil))) (.cons (.ret (.con (.bl false))) .nil) .nil) (.cons (.asg (.name 4) (.lst (.cons (.lam 24 (.make 0 (.cons (.slot 3) .nil))) .nil))) (.cons (.expr (.bm .append (.slot 4) (.cons (.lam 24 (.call 8 (.cons (.slot 3) (.cons (.tup (.cons (.con (.int (1))) (.cons (.con (.int (2))) .nil))) .nil)))) .nil))) (.cons (.expr (.bm .append (.slot 4) (.cons (.lam 24 (.call 8 (.cons (.tup (.cons (.con (.int (1))) (.cons (.con (.int (2))) .nil))) (.cons (.slot 3) .nil)))) .nil))) (.cons (.ifS (.cmp .ne (.slot 4) (.bin .add (.lst (.cons (.call 21 (.cons (.tup (.cons (.con (.int (0))) .nil)) (.cons (.con (.int (14))) .nil))) .nil)) (.bin .mul (.lst (.cons (.call 21 (.cons (.tup (.cons (.con (.int (5))) .nil)) (.cons (.con (.int (14))) .nil))) .nil)) (.con (.int (2)))))) (.cons (.ret (.con (.bl false))) .nil) .nil) .nil))))))))) (.cons (.ret (.cmp .eq (.lam 24 (.make 0 (.cons (.disp (.str (Str.ofString "r")) (.int (3))) .nil))) (.lst .nil))) .nil))
abbrev d25 : FD := ⟨false, 1, 5, b25, none⟩
def b26 : CSs := (.cons (.asg (.name 4) (.ife (.isN (.slot 2)) .edct (.slot 2))) (.cons (.ifS (.orE (.notE (.call 9 (.cons (.slot 1) .nil))) (.notE (.call 10 (.cons (.slot 1) (.cons (.slot 4) .nil))))) (.cons (.raiseM 1) .nil) .nil) (.cons (.setF (Str.ofString "own_caps") (.slot 0) (.call 13 (.cons (.slot 1) (.cons (.slot 3) .nil)))) (.cons (.setF (Str.ofString "own_tables") (.slot 0) (.call 12 (.cons (.slot 1) .nil))) (.cons (.setF (Str.ofString "own_keys") (.slot 0) (.call 12 (.cons (.slot 4) .nil))) .nil)))))
abbrev d26 : FD := ⟨false, 4, 5, b26, none⟩
def sub : Nat → Nat → Bool
  | 0, 0 => true
  | 0, 1 => false
  | 0, 2 => false
  | 0, 3 => false
  | 0, 4 => false
  | 0, 5 => false
  | 0, 6 => false
  | 0, 7 => false
  | 0, 8 => false
  | 0, 9 => false
  | 0, 10 => false
  | 0, 11 => false
  | 0, 12 => false
  | 0, 13 => false
  | 0, 14 => false
  | 1, 0 => true
  | 1, 1 => true
  | 1, 2 => false
  | 1, 3 => false
  | 1, 4 => false
  | 1, 5 => false
  | 1, 6 => false
  | 1, 7 => false
  | 1, 8 => false
  | 1, 9 => false
  | 1, 10 => false
  | 1, 11 => false
  | 1, 12 => false
  | 1, 13 => false
  | 1, 14 => false
  | 2, 0 => true
  | 2, 1 => false
  | 2, 2 => true
  | 2, 3 => false
  | 2, 4 => false
  | 2, 5 => false
  | 2, 6 => false
  | 2, 7 => false
  | 2, 8 => false
  | 2, 9 => false
  | 2, 10 => false
  | 2, 11 => false
  | 2, 12 => false
  | 2, 13 => false
  | 2, 14 => false
  | 3, 0 => true
  | 3, 1 => false
  | 3, 2 => false
  | 3, 3 => true
  | 3, 4 => false
  | 3, 5 => false
  | 3, 6 => false
  | 3, 7 => false
  | 3, 8 => false
  | 3, 9 => false
  | 3, 10 => false
  | 3, 11 => false
  | 3, 12 => false
  | 3, 13 => false
  | 3, 14 => false
  | 4, 0 => true
  | 4, 1 => false
  | 4, 2 => false
  | 4, 3 => false
  | 4, 4 => true
  | 4, 5 => false
  | 4, 6 => false
  | 4, 7 => false
  | 4, 8 => false
  | 4, 9 => false
  | 4, 10 => false
  | 4, 11 => false
  | 4, 12 => false
  | 4, 13 => false
  | 4, 14 => false
  | 5, 0 => true
  | 5, 1 => false
  | 5, 2 => false
  | 5, 3 => false
  | 5, 4 => false
  | 5, 5 => true
  | 5, 6 => false
  | 5, 7 => false
  | 5, 8 => false
  | 5, 9 => false
  | 5, 10 => false
  | 5, 11 => false
  | 5, 12 => false
  | 5, 13 => false
  | 5, 14 => false
  | 6, 0 => true
  | 6, 1 => false
  | 6, 2 => false
  | 6, 3 => false
  | 6, 4 => false
  | 6, 5 => false
  | 6, 6 => true
  | 6, 7 => false
  | 6, 8 => false
  | 6, 9 => false
  | 6, 10 => false
  | 6, 11 => false
  | 6, 12 => false
  | 6, 13 => false
  | 6, 14 => false
  | 7, 0 => true
  | 7, 1 => false
  | 7, 2 => false
  | 7, 3 => false
  | 7, 4 => false
  | 7, 5 => false
  | 7, 6 => false
  | 7, 7 => true
  | 7, 8 => false
  | 7, 9 => false
  | 7, 10 => false
  | 7, 11 => false
  | 7, 12 => false
  | 7, 13 => false
  | 7, 14 => false
  | 8, 0 => true
  | 8, 1 => false
  | 8, 2 => false
  | 8, 3 => false
  | 8, 4 => false
  | 8, 5 => false
  | 8, 6 => false
  | 8, 7 => false
  | 8, 8 => true
  | 8, 9 => false
  | 8, 10 => false
  | 8, 11 => false
  | 8, 12 => false
  | 8, 13 => false
  | 8, 14 => false
  | 9, 0 => true
  | 9, 1 => false
  | 9, 2 => false
  | 9, 3 => false
  | 9, 4 => false
  | 9, 5 => false
  | 9, 6 => false
  | 9, 7 => false
  | 9, 8 => false
  | 9, 9 => true
  | 9, 10 => false
  | 9, 11 => false
  | 9, 12 => false
  | 9, 13 => false
  | 9, 14 => false
  | 10, 0 => false
  | 10, 1 => false
  | 10, 2 => false
  | 10, 3 => false
  | 10, 4 => false
  | 10, 5 => false
  | 10, 6 => false
  | 10, 7 => false
  | 10, 8 => false
  | 10, 9 => false
  | 10, 10 => true
  | 10, 11 => false
  | 10, 12 => false
  | 10, 13 => false
  | 10, 14 => false
  | 11, 0 => false
  | 11, 1 => false
  | 11, 2 => false
  | 11, 3 => false
  | 11, 4 => false
  | 11, 5 => false
  | 11, 6 => false
  | 11, 7 => false
  | 11, 8 => false
  | 11, 9 => false
  | 11, 10 => false
  | 11, 11 => true
  | 11, 12 => false
  | 11, 13 => false
  | 11, 14 => false
  | 12, 0 => false
  | 12, 1 => false
  | 12, 2 => false
  | 12, 3 => false
  | 12, 4 => false
  | 12, 5 => false
  | 12, 6 => false
  | 12, 7 => false
  | 12, 8 => false
  | 12, 9 => false
  | 12, 10 => false
  | 12, 11 => false
  | 12, 12 => true
  | 12, 13 => false
  | 12, 14 => false
  | 13, 0 => false
  | 13, 1 => false
  | 13, 2 => false
  | 13, 3 => false
  | 13, 4 => false
  | 13, 5 => false
  | 13, 6 => false
  | 13, 7 => false
  | 13, 8 => false
  | 13, 9 => false
  | 13, 10 => false
  | 13, 11 => false
  | 13, 12 => false
  | 13, 13 => true
  | 13, 14 => false
  | 14, 0 => false
  | 14, 1 => false
  | 14, 2 => false
  | 14, 3 => false
  | 14, 4 => false
  | 14, 5 => false
  | 14, 6 => false
  | 14, 7 => false
  | 14, 8 => false
  | 14, 9 => false
  | 14, 10 => false
  | 14, 11 => false
  | 14, 12 => false
  | 14, 13 => false
  | 14, 14 => true
  | _, _ => false
def inst : Nat → Bool
  | 0 => true
  | _ => false
def mths0 : List (Str × Nat) := []
def mth : Nat → Str → Option Nat
  | 0, m => mths0.lookup m
  | _, _ => none
def inis : Nat → Option Nat
  | 0 => some 26
  | _ => none
def rows : List (Str × List (Str × Bool)) := [((Str.ofString "DearError"), [((Str.ofString "DearError"), true), ((Str.ofString "InvalidSchema"), false), ((Str.ofString "InvalidRow"), false), ((Str.ofString "InvalidStore"), false), ((Str.ofString "InvalidQuestion"), false), ((Str.ofString "InvalidPattern"), false), ((Str.ofString "InvalidOperation"), false), ((Str.ofString "InvalidEdit"), false), ((Str.ofString "ParseError"), false), ((Str.ofString "InvalidCommand"), false), ((Str.ofString "InvalidNumber"), false), ((Str.ofString "UnknownName"), false), ((Str.ofString "TooMany"), false), ((Str.ofString "Missing"), false), ((Str.ofString "NothingToUndo"), false), ((Str.ofString "ValueError"), true), ((Str.ofString "IndexError"), false), ((Str.ofString "KeyError"), false), ((Str.ofString "OverflowError"), false), ((Str.ofString "LookupError"), false), ((Str.ofString "ArithmeticError"), false)]), ((Str.ofString "InvalidSchema"), [((Str.ofString "DearError"), true), ((Str.ofString "InvalidSchema"), true), ((Str.ofString "InvalidRow"), false), ((Str.ofString "InvalidStore"), false), ((Str.ofString "InvalidQuestion"), false), ((Str.ofString "InvalidPattern"), false), ((Str.ofString "InvalidOperation"), false), ((Str.ofString "InvalidEdit"), false), ((Str.ofString "ParseError"), false), ((Str.ofString "InvalidCommand"), false), ((Str.ofString "InvalidNumber"), false), ((Str.ofString "UnknownName"), false), ((Str.ofString "TooMany"), false), ((Str.ofString "Missing"), false), ((Str.ofString "NothingToUndo"), false), ((Str.ofString "ValueError"), true), ((Str.ofString "IndexError"), false), ((Str.ofString "KeyError"), false), ((Str.ofString "OverflowError"), false), ((Str.ofString "LookupError"), false), ((Str.ofString "ArithmeticError"), false)]), ((Str.ofString "InvalidRow"), [((Str.ofString "DearError"), true), ((Str.ofString "InvalidSchema"), false), ((Str.ofString "InvalidRow"), true), ((Str.ofString "InvalidStore"), false), ((Str.ofString "InvalidQuestion"), false), ((Str.ofString "InvalidPattern"), false), ((Str.ofString "InvalidOperation"), false), ((Str.ofString "InvalidEdit"), false), ((Str.ofString "ParseError"), false), ((Str.ofString "InvalidCommand"), false), ((Str.ofString "InvalidNumber"), false), ((Str.ofString "UnknownName"), false), ((Str.ofString "TooMany"), false), ((Str.ofString "Missing"), false), ((Str.ofString "NothingToUndo"), false), ((Str.ofString "ValueError"), true), ((Str.ofString "IndexError"), false), ((Str.ofString "KeyError"), false), ((Str.ofString "OverflowError"), false), ((Str.ofString "LookupError"), false), ((Str.ofString "ArithmeticError"), false)]), ((Str.ofString "InvalidStore"), [((Str.ofString "DearError"), true), ((Str.ofString "InvalidSchema"), false), ((Str.ofString "InvalidRow"), false), ((Str.ofString "InvalidStore"), true), ((Str.ofString "InvalidQuestion"), false), ((Str.ofString "InvalidPattern"), false), ((Str.ofString "InvalidOperation"), false), ((Str.ofString "InvalidEdit"), false), ((Str.ofString "ParseError"), false), ((Str.ofString "InvalidCommand"), false), ((Str.ofString "InvalidNumber"), false), ((Str.ofString "UnknownName"), false), ((Str.ofString "TooMany"), false), ((Str.ofString "Missing"), false), ((Str.ofString "NothingToUndo"), false), ((Str.ofString "ValueError"), true), ((Str.ofString "IndexError"), false), ((Str.ofString "KeyError"), false), ((Str.ofString "OverflowError"), false), ((Str.ofString "LookupError"), false), ((Str.ofString "ArithmeticError"), false)]), ((Str.ofString "InvalidQuestion"), [((Str.ofString "DearError"), true), ((Str.ofString "InvalidSchema"), false), ((Str.ofString "InvalidRow"), false), ((Str.ofString "InvalidStore"), false), ((Str.ofString "InvalidQuestion"), true), ((Str.ofString "InvalidPattern"), false), ((Str.ofString "InvalidOperation"), false), ((Str.ofString "InvalidEdit"), false), ((Str.ofString "ParseError"), false), ((Str.ofString "InvalidCommand"), false), ((Str.ofString "InvalidNumber"), false), ((Str.ofString "UnknownName"), false), ((Str.ofString "TooMany"), false), ((Str.ofString "Missing"), false), ((Str.ofString "NothingToUndo"), false), ((Str.ofString "ValueError"), true), ((Str.ofString "IndexError"), false), ((Str.ofString "KeyError"), false), ((Str.ofString "OverflowError"), false), ((Str.ofString "LookupError"), false), ((Str.ofString "ArithmeticError"), false)]), ((Str.ofString "InvalidPattern"), [((Str.ofString "DearError"), true), ((Str.ofString "InvalidSchema"), false), ((Str.ofString "InvalidRow"), false), ((Str.ofString "InvalidStore"), false), ((Str.ofString "InvalidQuestion"), false), ((Str.ofString "InvalidPattern"), true), ((Str.ofString "InvalidOperation"), false), ((Str.ofString "InvalidEdit"), false), ((Str.ofString "ParseError"), false), ((Str.ofString "InvalidCommand"), false), ((Str.ofString "InvalidNumber"), false), ((Str.ofString "UnknownName"), false), ((Str.ofString "TooMany"), false), ((Str.ofString "Missing"), false), ((Str.ofString "NothingToUndo"), false), ((Str.ofString "ValueError"), true), ((Str.ofString "IndexError"), false), ((Str.ofString "KeyError"), false), ((Str.ofString "OverflowError"), false), ((Str.ofString "LookupError"), false), ((Str.ofString "ArithmeticError"), false)]), ((Str.ofString "InvalidOperation"), [((Str.ofString "DearError"), true), ((Str.ofString "InvalidSchema"), false), ((Str.ofString "InvalidRow"), false), ((Str.ofString "InvalidStore"), false), ((Str.ofString "InvalidQuestion"), false), ((Str.ofString "InvalidPattern"), false), ((Str.ofString "InvalidOperation"), true), ((Str.ofString "InvalidEdit"), false), ((Str.ofString "ParseError"), false), ((Str.ofString "InvalidCommand"), false), ((Str.ofString "InvalidNumber"), false), ((Str.ofString "UnknownName"), false), ((Str.ofString "TooMany"), false), ((Str.ofString "Missing"), false), ((Str.ofString "NothingToUndo"), false), ((Str.ofString "ValueError"), true), ((Str.ofString "IndexError"), false), ((Str.ofString "KeyError"), false), ((Str.ofString "OverflowError"), false), ((Str.ofString "LookupError"), false), ((Str.ofString "ArithmeticError"), false)]), ((Str.ofString "InvalidEdit"), [((Str.ofString "DearError"), true), ((Str.ofString "InvalidSchema"), false), ((Str.ofString "InvalidRow"), false), ((Str.ofString "InvalidStore"), false), ((Str.ofString "InvalidQuestion"), false), ((Str.ofString "InvalidPattern"), false), ((Str.ofString "InvalidOperation"), false), ((Str.ofString "InvalidEdit"), true), ((Str.ofString "ParseError"), false), ((Str.ofString "InvalidCommand"), false), ((Str.ofString "InvalidNumber"), false), ((Str.ofString "UnknownName"), false), ((Str.ofString "TooMany"), false), ((Str.ofString "Missing"), false), ((Str.ofString "NothingToUndo"), false), ((Str.ofString "ValueError"), true), ((Str.ofString "IndexError"), false), ((Str.ofString "KeyError"), false), ((Str.ofString "OverflowError"), false), ((Str.ofString "LookupError"), false), ((Str.ofString "ArithmeticError"), false)]), ((Str.ofString "ParseError"), [((Str.ofString "DearError"), true), ((Str.ofString "InvalidSchema"), false), ((Str.ofString "InvalidRow"), false), ((Str.ofString "InvalidStore"), false), ((Str.ofString "InvalidQuestion"), false), ((Str.ofString "InvalidPattern"), false), ((Str.ofString "InvalidOperation"), false), ((Str.ofString "InvalidEdit"), false), ((Str.ofString "ParseError"), true), ((Str.ofString "InvalidCommand"), false), ((Str.ofString "InvalidNumber"), false), ((Str.ofString "UnknownName"), false), ((Str.ofString "TooMany"), false), ((Str.ofString "Missing"), false), ((Str.ofString "NothingToUndo"), false), ((Str.ofString "ValueError"), true), ((Str.ofString "IndexError"), false), ((Str.ofString "KeyError"), false), ((Str.ofString "OverflowError"), false), ((Str.ofString "LookupError"), false), ((Str.ofString "ArithmeticError"), false)]), ((Str.ofString "InvalidCommand"), [((Str.ofString "DearError"), true), ((Str.ofString "InvalidSchema"), false), ((Str.ofString "InvalidRow"), false), ((Str.ofString "InvalidStore"), false), ((Str.ofString "InvalidQuestion"), false), ((Str.ofString "InvalidPattern"), false), ((Str.ofString "InvalidOperation"), false), ((Str.ofString "InvalidEdit"), false), ((Str.ofString "ParseError"), false), ((Str.ofString "InvalidCommand"), true), ((Str.ofString "InvalidNumber"), false), ((Str.ofString "UnknownName"), false), ((Str.ofString "TooMany"), false), ((Str.ofString "Missing"), false), ((Str.ofString "NothingToUndo"), false), ((Str.ofString "ValueError"), true), ((Str.ofString "IndexError"), false), ((Str.ofString "KeyError"), false), ((Str.ofString "OverflowError"), false), ((Str.ofString "LookupError"), false), ((Str.ofString "ArithmeticError"), false)]), ((Str.ofString "InvalidNumber"), [((Str.ofString "DearError"), false), ((Str.ofString "InvalidSchema"), false), ((Str.ofString "InvalidRow"), false), ((Str.ofString "InvalidStore"), false), ((Str.ofString "InvalidQuestion"), false), ((Str.ofString "InvalidPattern"), false), ((Str.ofString "InvalidOperation"), false), ((Str.ofString "InvalidEdit"), false), ((Str.ofString "ParseError"), false), ((Str.ofString "InvalidCommand"), false), ((Str.ofString "InvalidNumber"), true), ((Str.ofString "UnknownName"), false), ((Str.ofString "TooMany"), false), ((Str.ofString "Missing"), false), ((Str.ofString "NothingToUndo"), false), ((Str.ofString "ValueError"), false), ((Str.ofString "IndexError"), true), ((Str.ofString "KeyError"), false), ((Str.ofString "OverflowError"), false), ((Str.ofString "LookupError"), true), ((Str.ofString "ArithmeticError"), false)]), ((Str.ofString "UnknownName"), [((Str.ofString "DearError"), false), ((Str.ofString "InvalidSchema"), false), ((Str.ofString "InvalidRow"), false), ((Str.ofString "InvalidStore"), false), ((Str.ofString "InvalidQuestion"), false), ((Str.ofString "InvalidPattern"), false), ((Str.ofString "InvalidOperation"), false), ((Str.ofString "InvalidEdit"), false), ((Str.ofString "ParseError"), false), ((Str.ofString "InvalidCommand"), false), ((Str.ofString "InvalidNumber"), false), ((Str.ofString "UnknownName"), true), ((Str.ofString "TooMany"), false), ((Str.ofString "Missing"), false), ((Str.ofString "NothingToUndo"), false), ((Str.ofString "ValueError"), false), ((Str.ofString "IndexError"), false), ((Str.ofString "KeyError"), true), ((Str.ofString "OverflowError"), false), ((Str.ofString "LookupError"), true), ((Str.ofString "ArithmeticError"), false)]), ((Str.ofString "TooMany"), [((Str.ofString "DearError"), false), ((Str.ofString "InvalidSchema"), false), ((Str.ofString "InvalidRow"), false), ((Str.ofString "InvalidStore"), false), ((Str.ofString "InvalidQuestion"), false), ((Str.ofString "InvalidPattern"), false), ((Str.ofString "InvalidOperation"), false), ((Str.ofString "InvalidEdit"), false), ((Str.ofString "ParseError"), false), ((Str.ofString "InvalidCommand"), false), ((Str.ofString "InvalidNumber"), false), ((Str.ofString "UnknownName"), false), ((Str.ofString "TooMany"), true), ((Str.ofString "Missing"), false), ((Str.ofString "NothingToUndo"), false), ((Str.ofString "ValueError"), false), ((Str.ofString "IndexError"), false), ((Str.ofString "KeyError"), false), ((Str.ofString "OverflowError"), true), ((Str.ofString "LookupError"), false), ((Str.ofString "ArithmeticError"), true)]), ((Str.ofString "Missing"), [((Str.ofString "DearError"), false), ((Str.ofString "InvalidSchema"), false), ((Str.ofString "InvalidRow"), false), ((Str.ofString "InvalidStore"), false), ((Str.ofString "InvalidQuestion"), false), ((Str.ofString "InvalidPattern"), false), ((Str.ofString "InvalidOperation"), false), ((Str.ofString "InvalidEdit"), false), ((Str.ofString "ParseError"), false), ((Str.ofString "InvalidCommand"), false), ((Str.ofString "InvalidNumber"), false), ((Str.ofString "UnknownName"), false), ((Str.ofString "TooMany"), false), ((Str.ofString "Missing"), true), ((Str.ofString "NothingToUndo"), false), ((Str.ofString "ValueError"), false), ((Str.ofString "IndexError"), false), ((Str.ofString "KeyError"), false), ((Str.ofString "OverflowError"), false), ((Str.ofString "LookupError"), true), ((Str.ofString "ArithmeticError"), false)]), ((Str.ofString "NothingToUndo"), [((Str.ofString "DearError"), false), ((Str.ofString "InvalidSchema"), false), ((Str.ofString "InvalidRow"), false), ((Str.ofString "InvalidStore"), false), ((Str.ofString "InvalidQuestion"), false), ((Str.ofString "InvalidPattern"), false), ((Str.ofString "InvalidOperation"), false), ((Str.ofString "InvalidEdit"), false), ((Str.ofString "ParseError"), false), ((Str.ofString "InvalidCommand"), false), ((Str.ofString "InvalidNumber"), false), ((Str.ofString "UnknownName"), false), ((Str.ofString "TooMany"), false), ((Str.ofString "Missing"), false), ((Str.ofString "NothingToUndo"), true), ((Str.ofString "ValueError"), false), ((Str.ofString "IndexError"), false), ((Str.ofString "KeyError"), false), ((Str.ofString "OverflowError"), false), ((Str.ofString "LookupError"), false), ((Str.ofString "ArithmeticError"), true)])]
def clsN : List Str := [(Str.ofString "DearError"), (Str.ofString "InvalidSchema"), (Str.ofString "InvalidRow"), (Str.ofString "InvalidStore"), (Str.ofString "InvalidQuestion"), (Str.ofString "InvalidPattern"), (Str.ofString "InvalidOperation"), (Str.ofString "InvalidEdit"), (Str.ofString "ParseError"), (Str.ofString "InvalidCommand"), (Str.ofString "InvalidNumber"), (Str.ofString "UnknownName"), (Str.ofString "TooMany"), (Str.ofString "Missing"), (Str.ofString "NothingToUndo")]
def xfl : List (Str × Str) := [((Str.ofString "InvalidNumber"), (Str.ofString "value")), ((Str.ofString "UnknownName"), (Str.ofString "name")), ((Str.ofString "TooMany"), (Str.ofString "limit")), ((Str.ofString "Missing"), (Str.ofString "answer")), ((Str.ofString "NothingToUndo"), (Str.ofString "many"))]
def dfls : Nat → List D
  | 26 => [.non, .tup []]
  | _ => []
def pg : Pg := { fns := [d0, d1, d2, d3, d4, d5, d6, d7, d8, d9, d10, d11, d12, d13, d14, d15, d16, d17, d18, d19, d20, d21, d22, d23, d24, d25, d26], sub := sub, W := 10 ^ 5000, inst := inst, mth := mth, ini := inis, isb := isbOf rows, nam := fun i => clsN.getD i (Str.ofString ""), dfl := dfls, xf := fun c f => xfl.lookup c == some f }
theorem t0 : DefT gb (Str.ofString "_wall") (Str.ofString "_wall") ((topS 0)) d0 false none := ⟨[(Str.ofString "k")], [(Str.ofString "k")], 300, (fun _ h => by cases h), by decide +kernel, rfl, rfl, fun _ => fun _ _ _ _ _ _ us hl => match us, hl with | [_], _ => rfl, fun _ => (by kernel_rfl), fun h => (by cases h), fun h => absurd h (by decide +kernel), fun h => absurd h (by decide +kernel)⟩
theorem t1 : DefT gb (Str.ofString "is_integer") (Str.ofString "is_integer") ((topS 23)) d1 false none := ⟨[(Str.ofString "value")], [(Str.ofString "value")], 300, (fun _ h => by cases h), by decide +kernel, rfl, rfl, fun _ => fun _ _ _ _ _ _ us hl => match us, hl with | [_], _ => rfl, fun _ => (by kernel_rfl), fun h => (by cases h), fun h => absurd h (by decide +kernel), fun h => absurd h (by decide +kernel)⟩
theorem t2 : DefT gb (Str.ofString "is_between") (Str.ofString "is_between") ((topS 24)) d2 false none := ⟨[(Str.ofString "value"), (Str.ofString "low"), (Str.ofString "high")], [(Str.ofString "value"), (Str.ofString "low"), (Str.ofString "high")], 300, (fun _ h => by cases h), by decide +kernel, rfl, rfl, fun _ => fun _ _ _ _ _ _ us hl => match us, hl with | [_, _, _], _ => rfl, fun _ => (by kernel_rfl), fun h => (by cases h), fun h => absurd h (by decide +kernel), fun h => absurd h (by decide +kernel)⟩
theorem t3 : DefT gb (Str.ofString "is_name") (Str.ofString "is_name") ((topS 25)) d3 false none := ⟨[(Str.ofString "value"), (Str.ofString "sign")], [(Str.ofString "value")], 300, (fun _ h => by cases h), by decide +kernel, rfl, rfl, fun _ => fun _ _ _ _ _ _ us hl => match us, hl with | [_], _ => rfl, fun _ => (by kernel_rfl), fun h => (by cases h), fun h => absurd h (by decide +kernel), fun h => absurd h (by decide +kernel)⟩
theorem t4 : DefT gb (Str.ofString "common_divisor") (Str.ofString "common_divisor") ((topS 26)) d4 false none := ⟨[(Str.ofString "number"), (Str.ofString "other")], [(Str.ofString "number"), (Str.ofString "other")], 300, (fun _ h => by cases h), by decide +kernel, rfl, rfl, fun _ => fun _ _ _ _ _ _ us hl => match us, hl with | [_, _], _ => rfl, fun _ => (by kernel_rfl), fun h => (by cases h), fun h => absurd h (by decide +kernel), fun h => absurd h (by decide +kernel)⟩
theorem t5 : DefT gb (Str.ofString "is_fraction") (Str.ofString "is_fraction") ((topS 27)) d5 false none := ⟨[(Str.ofString "value")], [(Str.ofString "value")], 300, (fun _ h => by cases h), by decide +kernel, rfl, rfl, fun _ => fun _ _ _ _ _ _ us hl => match us, hl with | [_], _ => rfl, fun _ => (by kernel_rfl), fun h => (by cases h), fun h => absurd h (by decide +kernel), fun h => absurd h (by decide +kernel)⟩
theorem t6 : DefT gb (Str.ofString "require_fraction") (Str.ofString "require_fraction") ((topS 28)) d6 false none := ⟨[(Str.ofString "value")], [(Str.ofString "value")], 300, (fun _ h => by cases h), by decide +kernel, rfl, rfl, fun _ => fun _ _ _ _ _ _ us hl => match us, hl with | [_], _ => rfl, fun _ => (by kernel_rfl), fun h => (by cases h), fun h => absurd h (by decide +kernel), fun h => absurd h (by decide +kernel)⟩
theorem t7 : DefT gb (Str.ofString "less_than") (Str.ofString "less_than") ((topS 29)) d7 false none := ⟨[(Str.ofString "one"), (Str.ofString "two")], [(Str.ofString "one"), (Str.ofString "two")], 300, (fun _ h => by cases h), by decide +kernel, rfl, rfl, fun _ => fun _ _ _ _ _ _ us hl => match us, hl with | [_, _], _ => rfl, fun _ => (by kernel_rfl), fun h => (by cases h), fun h => absurd h (by decide +kernel), fun h => absurd h (by decide +kernel)⟩
theorem t8 : DefT gb (Str.ofString "compared") (Str.ofString "compared") ((topS 30)) d8 false none := ⟨[(Str.ofString "one"), (Str.ofString "two")], [(Str.ofString "one"), (Str.ofString "two")], 300, (fun _ h => by cases h), by decide +kernel, rfl, rfl, fun _ => fun _ _ _ _ _ _ us hl => match us, hl with | [_, _], _ => rfl, fun _ => (by kernel_rfl), fun h => (by cases h), fun h => absurd h (by decide +kernel), fun h => absurd h (by decide +kernel)⟩
theorem t9 : DefT gb (Str.ofString "are_tables") (Str.ofString "are_tables") ((topS 36)) d9 false none := ⟨[(Str.ofString "value"), (Str.ofString "table")], [(Str.ofString "value")], 300, (fun _ h => by cases h), by decide +kernel, rfl, rfl, fun _ => fun _ _ _ _ _ _ us hl => match us, hl with | [_], _ => rfl, fun _ => (by kernel_rfl), fun h => (by cases h), fun h => absurd h (by decide +kernel), fun h => absurd h (by decide +kernel)⟩
theorem t10 : DefT gb (Str.ofString "are_keys") (Str.ofString "are_keys") ((topS 37)) d10 false none := ⟨[(Str.ofString "tables"), (Str.ofString "value"), (Str.ofString "table")], [(Str.ofString "tables"), (Str.ofString "value")], 300, (fun _ h => by cases h), by decide +kernel, rfl, rfl, fun _ => fun _ _ _ _ _ _ us hl => match us, hl with | [_, _], _ => rfl, fun _ => (by kernel_rfl), fun h => (by cases h), fun h => absurd h (by decide +kernel), fun h => absurd h (by decide +kernel)⟩
theorem t11 : DefT gb (Str.ofString "is_cap") (Str.ofString "is_cap") ((topS 38)) d11 false none := ⟨[(Str.ofString "tables"), (Str.ofString "value"), (Str.ofString "a"), (Str.ofString "one"), (Str.ofString "b"), (Str.ofString "other"), (Str.ofString "table")], [(Str.ofString "tables"), (Str.ofString "value")], 300, (fun _ h => by cases h), by decide +kernel, rfl, rfl, fun _ => fun _ _ _ _ _ _ us hl => match us, hl with | [_, _], _ => rfl, fun _ => (by kernel_rfl), fun h => (by cases h), fun h => absurd h (by decide +kernel), fun h => absurd h (by decide +kernel)⟩
theorem t12 : DefT gb (Str.ofString "ascending_dict") (Str.ofString "ascending_dict") ((topS 39)) d12 false none := ⟨[(Str.ofString "found"), (Str.ofString "key")], [(Str.ofString "found")], 300, (fun _ h => by cases h), by decide +kernel, rfl, rfl, fun _ => fun _ _ _ _ _ _ us hl => match us, hl with | [_], _ => rfl, fun _ => (by kernel_rfl), fun h => (by cases h), fun h => absurd h (by decide +kernel), fun h => absurd h (by decide +kernel)⟩
theorem t13 : DefT gb (Str.ofString "checked_caps") (Str.ofString "checked_caps") ((topS 40)) d13 false none := ⟨[(Str.ofString "tables"), (Str.ofString "caps"), (Str.ofString "found"), (Str.ofString "cap")], [(Str.ofString "tables"), (Str.ofString "caps")], 300, (fun _ h => by cases h), by decide +kernel, rfl, rfl, fun _ => fun _ _ _ _ _ _ us hl => match us, hl with | [_, _], _ => rfl, fun _ => (by kernel_rfl), fun h => (by cases h), fun h => absurd h (by decide +kernel), fun h => absurd h (by decide +kernel)⟩
theorem t14 : DefT gb (Str.ofString "require_table") (Str.ofString "require_table") ((topS 41)) d14 false none := ⟨[(Str.ofString "schema"), (Str.ofString "table")], [(Str.ofString "schema"), (Str.ofString "table")], 300, (fun _ h => by cases h), by decide +kernel, rfl, rfl, fun _ => fun _ _ _ _ _ _ us hl => match us, hl with | [_, _], _ => rfl, fun _ => (by kernel_rfl), fun h => (by cases h), fun h => absurd h (by decide +kernel), fun h => absurd h (by decide +kernel)⟩
theorem t15 : DefT gb (Str.ofString "_law_start") (Str.ofString "_law_start") ((topS 44)) d15 false none := ⟨[(Str.ofString "_law_script"), (Str.ofString "_law_at"), (Str.ofString "_law_cell"), (Str.ofString "_law_great"), (Str.ofString "_law_mixed")], [(Str.ofString "_law_script"), (Str.ofString "_law_at")], 300, (fun _ h => by cases h), by decide +kernel, rfl, rfl, fun _ => fun _ _ _ _ _ _ us hl => match us, hl with | [_, _], _ => rfl, fun _ => (by kernel_rfl), fun h => (by cases h), fun h => absurd h (by decide +kernel), fun h => absurd h (by decide +kernel)⟩
theorem t16 : DefT gb (Str.ofString "_law_throw") (Str.ofString "_law_throw") ((topS 45)) d16 false none := ⟨[(Str.ofString "_law_bag"), (Str.ofString "_law_total"), (Str.ofString "_law_one"), (Str.ofString "_law_two"), (Str.ofString "_law_found")], [(Str.ofString "_law_bag"), (Str.ofString "_law_total")], 300, (fun _ h => by cases h), by decide +kernel, rfl, rfl, fun _ => fun _ _ _ _ _ _ us hl => match us, hl with | [_, _], _ => rfl, fun _ => (by kernel_rfl), fun h => (by cases h), fun h => absurd h (by decide +kernel), fun h => absurd h (by decide +kernel)⟩
theorem t17 : DefT gb (Str.ofString "_law_pick") (Str.ofString "_law_pick") ((topS 46)) d17 false none := ⟨[(Str.ofString "_law_bag"), (Str.ofString "_law_items")], [(Str.ofString "_law_bag"), (Str.ofString "_law_items")], 300, (fun _ h => by cases h), by decide +kernel, rfl, rfl, fun _ => fun _ _ _ _ _ _ us hl => match us, hl with | [_, _], _ => rfl, fun _ => (by kernel_rfl), fun h => (by cases h), fun h => absurd h (by decide +kernel), fun h => absurd h (by decide +kernel)⟩
theorem t18 : DefT gb (Str.ofString "_law_told") (Str.ofString "_law_told") ((topS 47)) d18 false none := ⟨[(Str.ofString "_law_message"), (Str.ofString "_law_found")], [(Str.ofString "_law_message")], 300, (fun _ h => by cases h), by decide +kernel, rfl, rfl, fun _ => fun _ _ _ _ _ _ us hl => match us, hl with | [_], _ => rfl, fun _ => (by kernel_rfl), fun h => (by cases h), fun h => absurd h (by decide +kernel), fun h => absurd h (by decide +kernel)⟩
theorem t19 : DefT gb (Str.ofString "_law_flags") (Str.ofString "_law_flags") ((topS 48)) d19 false none := ⟨[(Str.ofString "_law_one"), (Str.ofString "_law_found")], [(Str.ofString "_law_one")], 300, (fun _ h => by cases h), by decide +kernel, rfl, rfl, fun _ => fun _ _ _ _ _ _ us hl => match us, hl with | [_], _ => rfl, fun _ => (by kernel_rfl), fun h => (by cases h), fun h => absurd h (by decide +kernel), fun _ => ⟨hb19, (Str.ofString "_law_one"), rfl, rfl, rfl, .inl (by rfl), by decide +kernel, by decide +kernel, by kernel_rfl⟩⟩
theorem t20 : DefT gb (Str.ofString "_law_bases") (Str.ofString "_law_bases") ((topS 49)) d20 false none := ⟨[(Str.ofString "_law_one"), (Str.ofString "_law_found")], [(Str.ofString "_law_one")], 300, (fun _ h => by cases h), by decide +kernel, rfl, rfl, fun _ => fun _ _ _ _ _ _ us hl => match us, hl with | [_], _ => rfl, fun _ => (by kernel_rfl), fun h => (by cases h), fun h => absurd h (by decide +kernel), fun h => absurd h (by decide +kernel)⟩
theorem t21 : DefT gb (Str.ofString "_law_only") (Str.ofString "_law_only") ((topS 50)) d21 false none := ⟨[(Str.ofString "_law_spots"), (Str.ofString "_law_total"), (Str.ofString "_law_at")], [(Str.ofString "_law_spots"), (Str.ofString "_law_total")], 300, (fun _ h => by cases h), by decide +kernel, rfl, rfl, fun _ => fun _ _ _ _ _ _ us hl => match us, hl with | [_, _], _ => rfl, fun _ => (by kernel_rfl), fun h => (by cases h), fun h => absurd h (by decide +kernel), fun h => absurd h (by decide +kernel)⟩
theorem t22 : DefT gb (Str.ofString "_law_messages_right") (Str.ofString "_law_messages_right") ((topS 51)) d22 false none := ⟨[(Str.ofString "_law_message"), (Str.ofString "_law_at"), (Str.ofString "_law_one")], [(Str.ofString "_law_message")], 300, (fun _ h => by cases h), by decide +kernel, rfl, rfl, fun _ => fun _ _ _ _ _ _ us hl => match us, hl with | [_], _ => rfl, fun _ => (by kernel_rfl), fun h => (by cases h), fun h => absurd h (by decide +kernel), fun h => absurd h (by decide +kernel)⟩
theorem t23 : DefT gb (Str.ofString "_law_values_right") (Str.ofString "_law_values_right") ((topS 52)) d23 false none := ⟨[(Str.ofString "_law_bag"), (Str.ofString "_law_some"), (Str.ofString "_law_odd"), (Str.ofString "_law_made"), (Str.ofString "_law_bases_here"), (Str.ofString "_law_told_here"), (Str.ofString "_law_at"), (Str.ofString "_law_one")], [(Str.ofString "_law_bag")], 300, (fun _ h => by cases h), by decide +kernel, rfl, rfl, fun _ => fun _ _ _ _ _ _ us hl => match us, hl with | [_], _ => rfl, fun _ => (by kernel_rfl), fun h => (by cases h), fun h => absurd h (by decide +kernel), fun h => absurd h (by decide +kernel)⟩
theorem t24 : DefT gb (Str.ofString "_law_taken") (Str.ofString "_law_taken") ((topS 53)) d24 false none := ⟨[(Str.ofString "_law_call"), (Str.ofString "e")], [(Str.ofString "_law_call")], 300, (fun _ h => by cases h), by decide +kernel, rfl, rfl, fun _ => fun _ _ _ _ _ _ us hl => match us, hl with | [_], _ => rfl, fun h => (by cases h), fun _ => ⟨(Str.ofString "_law_call"), rfl, rfl, .inl (by rfl), by decide +kernel, by decide +kernel, by kernel_rfl⟩, fun _ => ⟨rfl, rfl⟩, fun h => absurd h (by decide +kernel)⟩
theorem t25 : DefT gb (Str.ofString "law") (Str.ofString "law") ((topS 54)) d25 true none := ⟨[(Str.ofString "_law_script"), (Str.ofString "_law_at"), (Str.ofString "_law_bag"), (Str.ofString "_law_odd"), (Str.ofString "_law_found")], [(Str.ofString "_law_script")], 300, (fun _ h => by cases h), by decide +kernel, rfl, rfl, fun _ => fun _ _ _ _ _ _ us hl => match us, hl with | [_], _ => rfl, fun _ => (by kernel_rfl), fun h => (by cases h), fun h => absurd h (by decide +kernel), fun h => absurd h (by decide +kernel)⟩
theorem t26 : DefT gb (Str.ofString "__init__") (Str.ofString "Schema.__init__") ((C8.clsBody (topS 42)).getD 0 (.Pass ⟨0, 0, 0, 0⟩)) d26 false (some [(Str.ofString "self"), (Str.ofString "tables"), (Str.ofString "keys"), (Str.ofString "caps")]) := ⟨[(Str.ofString "self"), (Str.ofString "tables"), (Str.ofString "keys"), (Str.ofString "caps"), (Str.ofString "known")], [(Str.ofString "self"), (Str.ofString "tables"), (Str.ofString "keys"), (Str.ofString "caps")], 300, (fun _ h => by cases h; rfl), by decide +kernel, rfl, rfl, fun h => (by cases h), fun _ => (by kernel_rfl), fun h => (by cases h), fun h => absurd h (by decide +kernel), fun h => absurd h (by decide +kernel)⟩
theorem kw26 (D : Addr) (doc pm : Value) (an : Option Addr) (cdv ct : Value) (us : List Value) (a b : Value) (hl : us.length = 2) : KwChain D [((Str.ofString "keys"), a), ((Str.ofString "caps"), b)] (bindArgs (PySem.W.fnOf (Str.ofString "__init__") (Str.ofString "Schema.__init__") (defArgs ((C8.clsBody (topS 42)).getD 0 (.Pass ⟨0, 0, 0, 0⟩))) (defBody ((C8.clsBody (topS 42)).getD 0 (.Pass ⟨0, 0, 0, 0⟩))) (defScope ((C8.clsBody (topS 42)).getD 0 (.Pass ⟨0, 0, 0, 0⟩))) .none (.ref D) doc pm an cdv ct) ⟨us, []⟩) ([(Str.ofString "self"), (Str.ofString "tables"), (Str.ofString "keys"), (Str.ofString "caps")].zip (us ++ [a, b])) := by
  match us, hl with
  | [u1, u2], _ =>
    refine ⟨_, _, _, _, _, _, rfl, rfl, ?_⟩
    refine ⟨_, _, _, _, _, _, rfl, rfl, ?_⟩
    rfl
theorem linked {P : Program} {w : World} {K : PySem.W.Frag} {h : Heap} {mg mb : Str → Option Value} {mean : ExcName → Option Value} {q : Program} {loose : List Str} (X : K.In h) (T : Top q loose mean mg mb h)
    {B0 : Addr} {f0 : Addr} {oc0 kV0 dc0 pm0 ct0 : Value} {od0 an0 : Option Addr} {sl0 : Array (Option Value)} {cd0 : Value} {f1 : Addr} {oc1 kV1 dc1 pm1 ct1 : Value} {od1 an1 : Option Addr} {sl1 : Array (Option Value)} {cd1 : Value} {f2 : Addr} {oc2 kV2 dc2 pm2 ct2 : Value} {od2 an2 : Option Addr} {sl2 : Array (Option Value)} {cd2 : Value} {f3 : Addr} {oc3 kV3 dc3 pm3 ct3 : Value} {od3 an3 : Option Addr} {sl3 : Array (Option Value)} {cd3 : Value} {f4 : Addr} {oc4 kV4 dc4 pm4 ct4 : Value} {od4 an4 : Option Addr} {sl4 : Array (Option Value)} {cd4 : Value} {f5 : Addr} {oc5 kV5 dc5 pm5 ct5 : Value} {od5 an5 : Option Addr} {sl5 : Array (Option Value)} {cd5 : Value} {f6 : Addr} {oc6 kV6 dc6 pm6 ct6 : Value} {od6 an6 : Option Addr} {sl6 : Array (Option Value)} {cd6 : Value} {f7 : Addr} {oc7 kV7 dc7 pm7 ct7 : Value} {od7 an7 : Option Addr} {sl7 : Array (Option Value)} {cd7 : Value} {f8 : Addr} {oc8 kV8 dc8 pm8 ct8 : Value} {od8 an8 : Option Addr} {sl8 : Array (Option Value)} {cd8 : Value} {f9 : Addr} {oc9 kV9 dc9 pm9 ct9 : Value} {od9 an9 : Option Addr} {sl9 : Array (Option Value)} {cd9 : Value} {f10 : Addr} {oc10 kV10 dc10 pm10 ct10 : Value} {od10 an10 : Option Addr} {sl10 : Array (Option Value)} {cd10 : Value} {f11 : Addr} {oc11 kV11 dc11 pm11 ct11 : Value} {od11 an11 : Option Addr} {sl11 : Array (Option Value)} {cd11 : Value} {f12 : Addr} {oc12 kV12 dc12 pm12 ct12 : Value} {od12 an12 : Option Addr} {sl12 : Array (Option Value)} {cd12 : Value} {f13 : Addr} {oc13 kV13 dc13 pm13 ct13 : Value} {od13 an13 : Option Addr} {sl13 : Array (Option Value)} {cd13 : Value} {f14 : Addr} {oc14 kV14 dc14 pm14 ct14 : Value} {od14 an14 : Option Addr} {sl14 : Array (Option Value)} {cd14 : Value} {f15 : Addr} {oc15 kV15 dc15 pm15 ct15 : Value} {od15 an15 : Option Addr} {sl15 : Array (Option Value)} {cd15 : Value} {f16 : Addr} {oc16 kV16 dc16 pm16 ct16 : Value} {od16 an16 : Option Addr} {sl16 : Array (Option Value)} {cd16 : Value} {f17 : Addr} {oc17 kV17 dc17 pm17 ct17 : Value} {od17 an17 : Option Addr} {sl17 : Array (Option Value)} {cd17 : Value} {f18 : Addr} {oc18 kV18 dc18 pm18 ct18 : Value} {od18 an18 : Option Addr} {sl18 : Array (Option Value)} {cd18 : Value} {f19 : Addr} {oc19 kV19 dc19 pm19 ct19 : Value} {od19 an19 : Option Addr} {sl19 : Array (Option Value)} {cd19 : Value} {f20 : Addr} {oc20 kV20 dc20 pm20 ct20 : Value} {od20 an20 : Option Addr} {sl20 : Array (Option Value)} {cd20 : Value} {f21 : Addr} {oc21 kV21 dc21 pm21 ct21 : Value} {od21 an21 : Option Addr} {sl21 : Array (Option Value)} {cd21 : Value} {f22 : Addr} {oc22 kV22 dc22 pm22 ct22 : Value} {od22 an22 : Option Addr} {sl22 : Array (Option Value)} {cd22 : Value} {f23 : Addr} {oc23 kV23 dc23 pm23 ct23 : Value} {od23 an23 : Option Addr} {sl23 : Array (Option Value)} {cd23 : Value} {f24 : Addr} {oc24 kV24 dc24 pm24 ct24 : Value} {od24 an24 : Option Addr} {sl24 : Array (Option Value)} {cd24 : Value} {f25 : Addr} {oc25 kV25 dc25 pm25 ct25 : Value} {od25 an25 : Option Addr} {sl25 : Array (Option Value)} {c25 P25 : Addr} {xoc25 : Value} {xod25 : Option Addr} {xsl25 : Array (Option Value)} {xvs25 : Array Value} {f26 : Addr} {oc26 kV26 dc26 pm26 ct26 : Value} {od26 an26 : Option Addr} {sl26 : Array (Option Value)} {cd26 : Value} {Dk26 Ak26 : Addr} {akd26 : Option Addr} {aki26 : Array Value} {akn26 : Nat} {aks26 : Array (Option Value)} {tk_LETTERS : Tok} {tk_MOST_LETTERS : Tok} {tk_LESS : Tok} {tk_EQUAL : Tok} {tk_GREATER : Tok} {tk_MAX_TABLES : Tok} {tk_MAX_PLACES : Tok} {tk_MAX_CAPS : Tok} {tk_MOST_CAP : Tok} {Cx0 : Addr} {Cx1 : Addr} {Cx2 : Addr} {Cx3 : Addr} {Cx4 : Addr} {Cx5 : Addr} {Cx6 : Addr} {Cx7 : Addr} {Cx8 : Addr} {Cx9 : Addr} {Cx10 : Addr} {I10 : Addr} {ioc10 ikV10 idc10 ipm10 icd10 ict10 : Value} {iod10 ian10 idd10 : Option Addr} {isl10 csl10 : Array (Option Value)} {cdt10 : Data} {Cx11 : Addr} {I11 : Addr} {ioc11 ikV11 idc11 ipm11 icd11 ict11 : Value} {iod11 ian11 idd11 : Option Addr} {isl11 csl11 : Array (Option Value)} {cdt11 : Data} {Cx12 : Addr} {I12 : Addr} {ioc12 ikV12 idc12 ipm12 icd12 ict12 : Value} {iod12 ian12 idd12 : Option Addr} {isl12 csl12 : Array (Option Value)} {cdt12 : Data} {Cx13 : Addr} {I13 : Addr} {ioc13 ikV13 idc13 ipm13 icd13 ict13 : Value} {iod13 ian13 idd13 : Option Addr} {isl13 csl13 : Array (Option Value)} {cdt13 : Data} {Cx14 : Addr} {I14 : Addr} {ioc14 ikV14 idc14 ipm14 icd14 ict14 : Value} {iod14 ian14 idd14 : Option Addr} {isl14 csl14 : Array (Option Value)} {cdt14 : Data}
    (ba0 : PySem.W.nsIn K mainGlobals (Str.ofString "Schema") = some (some (.ref B0)))
    (bg0 : PySem.W.plainGet K B0 Str.empty = true)
    (bh0 : PySem.W.hasDictIn K B0 = true)
    (bo0 : PySem.W.plainOver K B0 = true)
    (bs0 : PySem.W.findIn K (.ref B0) "__setattr__" = some (some (.builtin "object.__setattr__")))
    (bm0 : PySem.W.makesIn K B0 = true)
    (bk0 : PySem.W.keepIn K (.ref B0) = true)
    (bf0_0 : PySem.W.findIn K (.ref B0) (Str.ofString "own_caps") = some none)
    (bf0_1 : PySem.W.findIn K (.ref B0) (Str.ofString "own_tables") = some none)
    (bf0_2 : PySem.W.findIn K (.ref B0) (Str.ofString "own_keys") = some none)
    (bf0_3 : PySem.W.findIn K (.ref B0) (Str.ofString "value") = some none)
    (bf0_4 : PySem.W.findIn K (.ref B0) (Str.ofString "name") = some none)
    (bf0_5 : PySem.W.findIn K (.ref B0) (Str.ofString "limit") = some none)
    (bf0_6 : PySem.W.findIn K (.ref B0) (Str.ofString "answer") = some none)
    (bf0_7 : PySem.W.findIn K (.ref B0) (Str.ofString "many") = some none)
    (a0 : PySem.W.nsIn K mainGlobals (Str.ofString "_wall") = some (some (.ref f0)))
    (l0 : K.lookup f0 = some ⟨oc0, od0, .func (PySem.W.fnOf (Str.ofString "_wall") (Str.ofString "_wall") (defArgs ((topS 0))) (defBody ((topS 0))) (defScope ((topS 0))) .none kV0 dc0 pm0 an0 cd0 ct0), sl0⟩)
    (e0 : PySem.W.codeIn K cd0 (Str.ofString "_wall") = true)
    (k0 : PySem.W.keepIn K (.ref f0) = true)
    (a1 : PySem.W.nsIn K mainGlobals (Str.ofString "is_integer") = some (some (.ref f1)))
    (l1 : K.lookup f1 = some ⟨oc1, od1, .func (PySem.W.fnOf (Str.ofString "is_integer") (Str.ofString "is_integer") (defArgs ((topS 23))) (defBody ((topS 23))) (defScope ((topS 23))) .none kV1 dc1 pm1 an1 cd1 ct1), sl1⟩)
    (e1 : PySem.W.codeIn K cd1 (Str.ofString "is_integer") = true)
    (k1 : PySem.W.keepIn K (.ref f1) = true)
    (a2 : PySem.W.nsIn K mainGlobals (Str.ofString "is_between") = some (some (.ref f2)))
    (l2 : K.lookup f2 = some ⟨oc2, od2, .func (PySem.W.fnOf (Str.ofString "is_between") (Str.ofString "is_between") (defArgs ((topS 24))) (defBody ((topS 24))) (defScope ((topS 24))) .none kV2 dc2 pm2 an2 cd2 ct2), sl2⟩)
    (e2 : PySem.W.codeIn K cd2 (Str.ofString "is_between") = true)
    (k2 : PySem.W.keepIn K (.ref f2) = true)
    (a3 : PySem.W.nsIn K mainGlobals (Str.ofString "is_name") = some (some (.ref f3)))
    (l3 : K.lookup f3 = some ⟨oc3, od3, .func (PySem.W.fnOf (Str.ofString "is_name") (Str.ofString "is_name") (defArgs ((topS 25))) (defBody ((topS 25))) (defScope ((topS 25))) .none kV3 dc3 pm3 an3 cd3 ct3), sl3⟩)
    (e3 : PySem.W.codeIn K cd3 (Str.ofString "is_name") = true)
    (k3 : PySem.W.keepIn K (.ref f3) = true)
    (a4 : PySem.W.nsIn K mainGlobals (Str.ofString "common_divisor") = some (some (.ref f4)))
    (l4 : K.lookup f4 = some ⟨oc4, od4, .func (PySem.W.fnOf (Str.ofString "common_divisor") (Str.ofString "common_divisor") (defArgs ((topS 26))) (defBody ((topS 26))) (defScope ((topS 26))) .none kV4 dc4 pm4 an4 cd4 ct4), sl4⟩)
    (e4 : PySem.W.codeIn K cd4 (Str.ofString "common_divisor") = true)
    (k4 : PySem.W.keepIn K (.ref f4) = true)
    (a5 : PySem.W.nsIn K mainGlobals (Str.ofString "is_fraction") = some (some (.ref f5)))
    (l5 : K.lookup f5 = some ⟨oc5, od5, .func (PySem.W.fnOf (Str.ofString "is_fraction") (Str.ofString "is_fraction") (defArgs ((topS 27))) (defBody ((topS 27))) (defScope ((topS 27))) .none kV5 dc5 pm5 an5 cd5 ct5), sl5⟩)
    (e5 : PySem.W.codeIn K cd5 (Str.ofString "is_fraction") = true)
    (k5 : PySem.W.keepIn K (.ref f5) = true)
    (a6 : PySem.W.nsIn K mainGlobals (Str.ofString "require_fraction") = some (some (.ref f6)))
    (l6 : K.lookup f6 = some ⟨oc6, od6, .func (PySem.W.fnOf (Str.ofString "require_fraction") (Str.ofString "require_fraction") (defArgs ((topS 28))) (defBody ((topS 28))) (defScope ((topS 28))) .none kV6 dc6 pm6 an6 cd6 ct6), sl6⟩)
    (e6 : PySem.W.codeIn K cd6 (Str.ofString "require_fraction") = true)
    (k6 : PySem.W.keepIn K (.ref f6) = true)
    (a7 : PySem.W.nsIn K mainGlobals (Str.ofString "less_than") = some (some (.ref f7)))
    (l7 : K.lookup f7 = some ⟨oc7, od7, .func (PySem.W.fnOf (Str.ofString "less_than") (Str.ofString "less_than") (defArgs ((topS 29))) (defBody ((topS 29))) (defScope ((topS 29))) .none kV7 dc7 pm7 an7 cd7 ct7), sl7⟩)
    (e7 : PySem.W.codeIn K cd7 (Str.ofString "less_than") = true)
    (k7 : PySem.W.keepIn K (.ref f7) = true)
    (a8 : PySem.W.nsIn K mainGlobals (Str.ofString "compared") = some (some (.ref f8)))
    (l8 : K.lookup f8 = some ⟨oc8, od8, .func (PySem.W.fnOf (Str.ofString "compared") (Str.ofString "compared") (defArgs ((topS 30))) (defBody ((topS 30))) (defScope ((topS 30))) .none kV8 dc8 pm8 an8 cd8 ct8), sl8⟩)
    (e8 : PySem.W.codeIn K cd8 (Str.ofString "compared") = true)
    (k8 : PySem.W.keepIn K (.ref f8) = true)
    (a9 : PySem.W.nsIn K mainGlobals (Str.ofString "are_tables") = some (some (.ref f9)))
    (l9 : K.lookup f9 = some ⟨oc9, od9, .func (PySem.W.fnOf (Str.ofString "are_tables") (Str.ofString "are_tables") (defArgs ((topS 36))) (defBody ((topS 36))) (defScope ((topS 36))) .none kV9 dc9 pm9 an9 cd9 ct9), sl9⟩)
    (e9 : PySem.W.codeIn K cd9 (Str.ofString "are_tables") = true)
    (k9 : PySem.W.keepIn K (.ref f9) = true)
    (a10 : PySem.W.nsIn K mainGlobals (Str.ofString "are_keys") = some (some (.ref f10)))
    (l10 : K.lookup f10 = some ⟨oc10, od10, .func (PySem.W.fnOf (Str.ofString "are_keys") (Str.ofString "are_keys") (defArgs ((topS 37))) (defBody ((topS 37))) (defScope ((topS 37))) .none kV10 dc10 pm10 an10 cd10 ct10), sl10⟩)
    (e10 : PySem.W.codeIn K cd10 (Str.ofString "are_keys") = true)
    (k10 : PySem.W.keepIn K (.ref f10) = true)
    (a11 : PySem.W.nsIn K mainGlobals (Str.ofString "is_cap") = some (some (.ref f11)))
    (l11 : K.lookup f11 = some ⟨oc11, od11, .func (PySem.W.fnOf (Str.ofString "is_cap") (Str.ofString "is_cap") (defArgs ((topS 38))) (defBody ((topS 38))) (defScope ((topS 38))) .none kV11 dc11 pm11 an11 cd11 ct11), sl11⟩)
    (e11 : PySem.W.codeIn K cd11 (Str.ofString "is_cap") = true)
    (k11 : PySem.W.keepIn K (.ref f11) = true)
    (a12 : PySem.W.nsIn K mainGlobals (Str.ofString "ascending_dict") = some (some (.ref f12)))
    (l12 : K.lookup f12 = some ⟨oc12, od12, .func (PySem.W.fnOf (Str.ofString "ascending_dict") (Str.ofString "ascending_dict") (defArgs ((topS 39))) (defBody ((topS 39))) (defScope ((topS 39))) .none kV12 dc12 pm12 an12 cd12 ct12), sl12⟩)
    (e12 : PySem.W.codeIn K cd12 (Str.ofString "ascending_dict") = true)
    (k12 : PySem.W.keepIn K (.ref f12) = true)
    (a13 : PySem.W.nsIn K mainGlobals (Str.ofString "checked_caps") = some (some (.ref f13)))
    (l13 : K.lookup f13 = some ⟨oc13, od13, .func (PySem.W.fnOf (Str.ofString "checked_caps") (Str.ofString "checked_caps") (defArgs ((topS 40))) (defBody ((topS 40))) (defScope ((topS 40))) .none kV13 dc13 pm13 an13 cd13 ct13), sl13⟩)
    (e13 : PySem.W.codeIn K cd13 (Str.ofString "checked_caps") = true)
    (k13 : PySem.W.keepIn K (.ref f13) = true)
    (a14 : PySem.W.nsIn K mainGlobals (Str.ofString "require_table") = some (some (.ref f14)))
    (l14 : K.lookup f14 = some ⟨oc14, od14, .func (PySem.W.fnOf (Str.ofString "require_table") (Str.ofString "require_table") (defArgs ((topS 41))) (defBody ((topS 41))) (defScope ((topS 41))) .none kV14 dc14 pm14 an14 cd14 ct14), sl14⟩)
    (e14 : PySem.W.codeIn K cd14 (Str.ofString "require_table") = true)
    (k14 : PySem.W.keepIn K (.ref f14) = true)
    (a15 : PySem.W.nsIn K mainGlobals (Str.ofString "_law_start") = some (some (.ref f15)))
    (l15 : K.lookup f15 = some ⟨oc15, od15, .func (PySem.W.fnOf (Str.ofString "_law_start") (Str.ofString "_law_start") (defArgs ((topS 44))) (defBody ((topS 44))) (defScope ((topS 44))) .none kV15 dc15 pm15 an15 cd15 ct15), sl15⟩)
    (e15 : PySem.W.codeIn K cd15 (Str.ofString "_law_start") = true)
    (k15 : PySem.W.keepIn K (.ref f15) = true)
    (a16 : PySem.W.nsIn K mainGlobals (Str.ofString "_law_throw") = some (some (.ref f16)))
    (l16 : K.lookup f16 = some ⟨oc16, od16, .func (PySem.W.fnOf (Str.ofString "_law_throw") (Str.ofString "_law_throw") (defArgs ((topS 45))) (defBody ((topS 45))) (defScope ((topS 45))) .none kV16 dc16 pm16 an16 cd16 ct16), sl16⟩)
    (e16 : PySem.W.codeIn K cd16 (Str.ofString "_law_throw") = true)
    (k16 : PySem.W.keepIn K (.ref f16) = true)
    (a17 : PySem.W.nsIn K mainGlobals (Str.ofString "_law_pick") = some (some (.ref f17)))
    (l17 : K.lookup f17 = some ⟨oc17, od17, .func (PySem.W.fnOf (Str.ofString "_law_pick") (Str.ofString "_law_pick") (defArgs ((topS 46))) (defBody ((topS 46))) (defScope ((topS 46))) .none kV17 dc17 pm17 an17 cd17 ct17), sl17⟩)
    (e17 : PySem.W.codeIn K cd17 (Str.ofString "_law_pick") = true)
    (k17 : PySem.W.keepIn K (.ref f17) = true)
    (a18 : PySem.W.nsIn K mainGlobals (Str.ofString "_law_told") = some (some (.ref f18)))
    (l18 : K.lookup f18 = some ⟨oc18, od18, .func (PySem.W.fnOf (Str.ofString "_law_told") (Str.ofString "_law_told") (defArgs ((topS 47))) (defBody ((topS 47))) (defScope ((topS 47))) .none kV18 dc18 pm18 an18 cd18 ct18), sl18⟩)
    (e18 : PySem.W.codeIn K cd18 (Str.ofString "_law_told") = true)
    (k18 : PySem.W.keepIn K (.ref f18) = true)
    (a19 : PySem.W.nsIn K mainGlobals (Str.ofString "_law_flags") = some (some (.ref f19)))
    (l19 : K.lookup f19 = some ⟨oc19, od19, .func (PySem.W.fnOf (Str.ofString "_law_flags") (Str.ofString "_law_flags") (defArgs ((topS 48))) (defBody ((topS 48))) (defScope ((topS 48))) .none kV19 dc19 pm19 an19 cd19 ct19), sl19⟩)
    (e19 : PySem.W.codeIn K cd19 (Str.ofString "_law_flags") = true)
    (k19 : PySem.W.keepIn K (.ref f19) = true)
    (a20 : PySem.W.nsIn K mainGlobals (Str.ofString "_law_bases") = some (some (.ref f20)))
    (l20 : K.lookup f20 = some ⟨oc20, od20, .func (PySem.W.fnOf (Str.ofString "_law_bases") (Str.ofString "_law_bases") (defArgs ((topS 49))) (defBody ((topS 49))) (defScope ((topS 49))) .none kV20 dc20 pm20 an20 cd20 ct20), sl20⟩)
    (e20 : PySem.W.codeIn K cd20 (Str.ofString "_law_bases") = true)
    (k20 : PySem.W.keepIn K (.ref f20) = true)
    (a21 : PySem.W.nsIn K mainGlobals (Str.ofString "_law_only") = some (some (.ref f21)))
    (l21 : K.lookup f21 = some ⟨oc21, od21, .func (PySem.W.fnOf (Str.ofString "_law_only") (Str.ofString "_law_only") (defArgs ((topS 50))) (defBody ((topS 50))) (defScope ((topS 50))) .none kV21 dc21 pm21 an21 cd21 ct21), sl21⟩)
    (e21 : PySem.W.codeIn K cd21 (Str.ofString "_law_only") = true)
    (k21 : PySem.W.keepIn K (.ref f21) = true)
    (a22 : PySem.W.nsIn K mainGlobals (Str.ofString "_law_messages_right") = some (some (.ref f22)))
    (l22 : K.lookup f22 = some ⟨oc22, od22, .func (PySem.W.fnOf (Str.ofString "_law_messages_right") (Str.ofString "_law_messages_right") (defArgs ((topS 51))) (defBody ((topS 51))) (defScope ((topS 51))) .none kV22 dc22 pm22 an22 cd22 ct22), sl22⟩)
    (e22 : PySem.W.codeIn K cd22 (Str.ofString "_law_messages_right") = true)
    (k22 : PySem.W.keepIn K (.ref f22) = true)
    (a23 : PySem.W.nsIn K mainGlobals (Str.ofString "_law_values_right") = some (some (.ref f23)))
    (l23 : K.lookup f23 = some ⟨oc23, od23, .func (PySem.W.fnOf (Str.ofString "_law_values_right") (Str.ofString "_law_values_right") (defArgs ((topS 52))) (defBody ((topS 52))) (defScope ((topS 52))) .none kV23 dc23 pm23 an23 cd23 ct23), sl23⟩)
    (e23 : PySem.W.codeIn K cd23 (Str.ofString "_law_values_right") = true)
    (k23 : PySem.W.keepIn K (.ref f23) = true)
    (a24 : PySem.W.nsIn K mainGlobals (Str.ofString "_law_taken") = some (some (.ref f24)))
    (l24 : K.lookup f24 = some ⟨oc24, od24, .func (PySem.W.fnOf (Str.ofString "_law_taken") (Str.ofString "_law_taken") (defArgs ((topS 53))) (defBody ((topS 53))) (defScope ((topS 53))) .none kV24 dc24 pm24 an24 cd24 ct24), sl24⟩)
    (e24 : PySem.W.codeIn K cd24 (Str.ofString "_law_taken") = true)
    (k24 : PySem.W.keepIn K (.ref f24) = true)
    (a25 : PySem.W.nsIn K mainGlobals (Str.ofString "law") = some (some (.ref f25)))
    (l25 : K.lookup f25 = some ⟨oc25, od25, .func (PySem.W.fnOf (Str.ofString "law") (Str.ofString "law") (defArgs ((topS 54))) (defBody ((topS 54))) (defScope ((topS 54))) .none kV25 dc25 pm25 an25 (.ref c25) ct25), sl25⟩)
    (e25 : PySem.W.codeIn K (.ref c25) (Str.ofString "law") = true)
    (k25 : PySem.W.keepIn K (.ref f25) = true)
    (xl25 : K.lookup c25 = some ⟨xoc25, xod25, .fields xvs25, xsl25⟩)
    (xv25 : xvs25[11]? = some (.ref P25))
    (xr25 : (recsOf q).any (fun e => e.name == (Str.ofString "law")) = true)
    (a26 : PySem.W.findIn K (.ref B0) (Str.ofString "__init__") = some (some (.ref f26)))
    (af26 : PySem.W.isFn K (.ref f26) = true)
    (l26 : K.lookup f26 = some ⟨oc26, od26, .func (PySem.W.fnOf (Str.ofString "__init__") (Str.ofString "Schema.__init__") (defArgs ((C8.clsBody (topS 42)).getD 0 (.Pass ⟨0, 0, 0, 0⟩))) (defBody ((C8.clsBody (topS 42)).getD 0 (.Pass ⟨0, 0, 0, 0⟩))) (defScope ((C8.clsBody (topS 42)).getD 0 (.Pass ⟨0, 0, 0, 0⟩))) .none (.ref Dk26) dc26 pm26 an26 cd26 ct26), sl26⟩)
    (q1_26 : PySem.W.nsIn K Dk26 (Str.ofString "keys") = some (some .none))
    (q2_26 : PySem.W.nsIn K Dk26 (Str.ofString "caps") = some (some (.ref Ak26)))
    (q3_26 : K.lookup Ak26 = some ⟨.type "tuple", akd26, .seq aki26 akn26, aks26⟩)
    (q4_26 : aki26.toList = [])
    (e26 : PySem.W.codeIn K cd26 (Str.ofString "Schema.__init__") = true)
    (k26 : PySem.W.keepIn K (.ref f26) = true)
    (g_LETTERS : PySem.W.nsIn K mainGlobals (Str.ofString "LETTERS") = some (some (.str (Str.ofString "abcdefghijklmnopqrstuvwxyz") tk_LETTERS)))
    (g_MOST_LETTERS : PySem.W.nsIn K mainGlobals (Str.ofString "MOST_LETTERS") = some (some (.int 8 tk_MOST_LETTERS)))
    (g_LESS : PySem.W.nsIn K mainGlobals (Str.ofString "LESS") = some (some (.str (Str.ofString "less") tk_LESS)))
    (g_EQUAL : PySem.W.nsIn K mainGlobals (Str.ofString "EQUAL") = some (some (.str (Str.ofString "equal") tk_EQUAL)))
    (g_GREATER : PySem.W.nsIn K mainGlobals (Str.ofString "GREATER") = some (some (.str (Str.ofString "greater") tk_GREATER)))
    (g_MAX_TABLES : PySem.W.nsIn K mainGlobals (Str.ofString "MAX_TABLES") = some (some (.int 8 tk_MAX_TABLES)))
    (g_MAX_PLACES : PySem.W.nsIn K mainGlobals (Str.ofString "MAX_PLACES") = some (some (.int 3 tk_MAX_PLACES)))
    (g_MAX_CAPS : PySem.W.nsIn K mainGlobals (Str.ofString "MAX_CAPS") = some (some (.int 6 tk_MAX_CAPS)))
    (g_MOST_CAP : PySem.W.nsIn K mainGlobals (Str.ofString "MOST_CAP") = some (some (.int 99 tk_MOST_CAP)))
    (z_len : PySem.W.nsIn K mainGlobals (Str.ofString "len") = some none)
    (z_abs : PySem.W.nsIn K mainGlobals (Str.ofString "abs") = some none)
    (z_max : PySem.W.nsIn K mainGlobals (Str.ofString "max") = some none)
    (z_min : PySem.W.nsIn K mainGlobals (Str.ofString "min") = some none)
    (z_int : PySem.W.nsIn K mainGlobals (Str.ofString "int") = some none)
    (z_list : PySem.W.nsIn K mainGlobals (Str.ofString "list") = some none)
    (z_tuple : PySem.W.nsIn K mainGlobals (Str.ofString "tuple") = some none)
    (z_repr : PySem.W.nsIn K mainGlobals (Str.ofString "repr") = some none)
    (z_all : PySem.W.nsIn K mainGlobals (Str.ofString "all") = some none)
    (z_isinstance : PySem.W.nsIn K mainGlobals (Str.ofString "isinstance") = some none)
    (z_bool : PySem.W.nsIn K mainGlobals (Str.ofString "bool") = some none)
    (z_str : PySem.W.nsIn K mainGlobals (Str.ofString "str") = some none)
    (z_dict : PySem.W.nsIn K mainGlobals (Str.ofString "dict") = some none)
    (z_range : PySem.W.nsIn K mainGlobals (Str.ofString "range") = some none)
    (z_enumerate : PySem.W.nsIn K mainGlobals (Str.ofString "enumerate") = some none)
    (z_sorted : PySem.W.nsIn K mainGlobals (Str.ofString "sorted") = some none)
    (z_ValueError : PySem.W.nsIn K mainGlobals (Str.ofString "ValueError") = some none)
    (z_IndexError : PySem.W.nsIn K mainGlobals (Str.ofString "IndexError") = some none)
    (z_KeyError : PySem.W.nsIn K mainGlobals (Str.ofString "KeyError") = some none)
    (z_OverflowError : PySem.W.nsIn K mainGlobals (Str.ofString "OverflowError") = some none)
    (z_LookupError : PySem.W.nsIn K mainGlobals (Str.ofString "LookupError") = some none)
    (z_ArithmeticError : PySem.W.nsIn K mainGlobals (Str.ofString "ArithmeticError") = some none)
    (ca0 : PySem.W.nsIn K mainGlobals (Str.ofString "DearError") = some (some (.ref Cx0)))
    (ck0 : PySem.W.keepIn K (.ref Cx0) = true)
    (cb0 : PySem.W.subIn K (.ref Cx0) (.type "BaseException") = some true)
    (cy0 : PySem.W.typeIn K (.ref Cx0) = some (.type "type"))
    (ci0 : PySem.W.isClsIn K Cx0 = true)
    (cx0 : PySem.W.excIn K Cx0 [.type "ValueError", .type "Exception", .type "BaseException", .type "object"] "ValueError.__new__" = true)
    (ca1 : PySem.W.nsIn K mainGlobals (Str.ofString "InvalidSchema") = some (some (.ref Cx1)))
    (ck1 : PySem.W.keepIn K (.ref Cx1) = true)
    (cb1 : PySem.W.subIn K (.ref Cx1) (.type "BaseException") = some true)
    (cy1 : PySem.W.typeIn K (.ref Cx1) = some (.type "type"))
    (ci1 : PySem.W.isClsIn K Cx1 = true)
    (cx1 : PySem.W.excIn K Cx1 [.type "ValueError", .type "Exception", .type "BaseException", .type "object"] "ValueError.__new__" = true)
    (ca2 : PySem.W.nsIn K mainGlobals (Str.ofString "InvalidRow") = some (some (.ref Cx2)))
    (ck2 : PySem.W.keepIn K (.ref Cx2) = true)
    (cb2 : PySem.W.subIn K (.ref Cx2) (.type "BaseException") = some true)
    (cy2 : PySem.W.typeIn K (.ref Cx2) = some (.type "type"))
    (ci2 : PySem.W.isClsIn K Cx2 = true)
    (cx2 : PySem.W.excIn K Cx2 [.type "ValueError", .type "Exception", .type "BaseException", .type "object"] "ValueError.__new__" = true)
    (ca3 : PySem.W.nsIn K mainGlobals (Str.ofString "InvalidStore") = some (some (.ref Cx3)))
    (ck3 : PySem.W.keepIn K (.ref Cx3) = true)
    (cb3 : PySem.W.subIn K (.ref Cx3) (.type "BaseException") = some true)
    (cy3 : PySem.W.typeIn K (.ref Cx3) = some (.type "type"))
    (ci3 : PySem.W.isClsIn K Cx3 = true)
    (cx3 : PySem.W.excIn K Cx3 [.type "ValueError", .type "Exception", .type "BaseException", .type "object"] "ValueError.__new__" = true)
    (ca4 : PySem.W.nsIn K mainGlobals (Str.ofString "InvalidQuestion") = some (some (.ref Cx4)))
    (ck4 : PySem.W.keepIn K (.ref Cx4) = true)
    (cb4 : PySem.W.subIn K (.ref Cx4) (.type "BaseException") = some true)
    (cy4 : PySem.W.typeIn K (.ref Cx4) = some (.type "type"))
    (ci4 : PySem.W.isClsIn K Cx4 = true)
    (cx4 : PySem.W.excIn K Cx4 [.type "ValueError", .type "Exception", .type "BaseException", .type "object"] "ValueError.__new__" = true)
    (ca5 : PySem.W.nsIn K mainGlobals (Str.ofString "InvalidPattern") = some (some (.ref Cx5)))
    (ck5 : PySem.W.keepIn K (.ref Cx5) = true)
    (cb5 : PySem.W.subIn K (.ref Cx5) (.type "BaseException") = some true)
    (cy5 : PySem.W.typeIn K (.ref Cx5) = some (.type "type"))
    (ci5 : PySem.W.isClsIn K Cx5 = true)
    (cx5 : PySem.W.excIn K Cx5 [.type "ValueError", .type "Exception", .type "BaseException", .type "object"] "ValueError.__new__" = true)
    (ca6 : PySem.W.nsIn K mainGlobals (Str.ofString "InvalidOperation") = some (some (.ref Cx6)))
    (ck6 : PySem.W.keepIn K (.ref Cx6) = true)
    (cb6 : PySem.W.subIn K (.ref Cx6) (.type "BaseException") = some true)
    (cy6 : PySem.W.typeIn K (.ref Cx6) = some (.type "type"))
    (ci6 : PySem.W.isClsIn K Cx6 = true)
    (cx6 : PySem.W.excIn K Cx6 [.type "ValueError", .type "Exception", .type "BaseException", .type "object"] "ValueError.__new__" = true)
    (ca7 : PySem.W.nsIn K mainGlobals (Str.ofString "InvalidEdit") = some (some (.ref Cx7)))
    (ck7 : PySem.W.keepIn K (.ref Cx7) = true)
    (cb7 : PySem.W.subIn K (.ref Cx7) (.type "BaseException") = some true)
    (cy7 : PySem.W.typeIn K (.ref Cx7) = some (.type "type"))
    (ci7 : PySem.W.isClsIn K Cx7 = true)
    (cx7 : PySem.W.excIn K Cx7 [.type "ValueError", .type "Exception", .type "BaseException", .type "object"] "ValueError.__new__" = true)
    (ca8 : PySem.W.nsIn K mainGlobals (Str.ofString "ParseError") = some (some (.ref Cx8)))
    (ck8 : PySem.W.keepIn K (.ref Cx8) = true)
    (cb8 : PySem.W.subIn K (.ref Cx8) (.type "BaseException") = some true)
    (cy8 : PySem.W.typeIn K (.ref Cx8) = some (.type "type"))
    (ci8 : PySem.W.isClsIn K Cx8 = true)
    (cx8 : PySem.W.excIn K Cx8 [.type "ValueError", .type "Exception", .type "BaseException", .type "object"] "ValueError.__new__" = true)
    (ca9 : PySem.W.nsIn K mainGlobals (Str.ofString "InvalidCommand") = some (some (.ref Cx9)))
    (ck9 : PySem.W.keepIn K (.ref Cx9) = true)
    (cb9 : PySem.W.subIn K (.ref Cx9) (.type "BaseException") = some true)
    (cy9 : PySem.W.typeIn K (.ref Cx9) = some (.type "type"))
    (ci9 : PySem.W.isClsIn K Cx9 = true)
    (cx9 : PySem.W.excIn K Cx9 [.type "ValueError", .type "Exception", .type "BaseException", .type "object"] "ValueError.__new__" = true)
    (ca10 : PySem.W.nsIn K mainGlobals (Str.ofString "InvalidNumber") = some (some (.ref Cx10)))
    (ck10 : PySem.W.keepIn K (.ref Cx10) = true)
    (cb10 : PySem.W.subIn K (.ref Cx10) (.type "BaseException") = some true)
    (cy10 : PySem.W.typeIn K (.ref Cx10) = some (.type "type"))
    (ci10 : PySem.W.isClsIn K Cx10 = true)
    (cl10 : K.lookup Cx10 = some ⟨.type "type", idd10, cdt10, csl10⟩)
    (ch10 : iniB Cx10 [.type "IndexError", .type "LookupError", .type "Exception", .type "BaseException", .type "object"] "IndexError.__new__" cdt10 csl10 = true)
    (ct_10 : PySem.W.takerIn K Cx10 (Str.ofString "value") = some none)
    (cs10 : PySem.W.findIn K (.ref Cx10) "__setattr__" = some (some (.builtin "object.__setattr__")))
    (cn10 : PySem.W.findIn K (.ref Cx10) "__init__" = some (some (.ref I10)))
    (cf10 : PySem.W.typeIn K (.ref I10) = some (.type "function"))
    (cli10 : K.lookup I10 = some ⟨ioc10, iod10, .func (PySem.W.fnOf "__init__" (Str.ofString "InvalidNumber.__init__") (defArgs ((C8.clsBody (topS 12)).getD 0 (.Pass ⟨0, 0, 0, 0⟩))) (defBody ((C8.clsBody (topS 12)).getD 0 (.Pass ⟨0, 0, 0, 0⟩))) (defScope ((C8.clsBody (topS 12)).getD 0 (.Pass ⟨0, 0, 0, 0⟩))) .none ikV10 idc10 ipm10 ian10 icd10 ict10), isl10⟩)
    (cci10 : PySem.W.codeIn K icd10 (Str.ofString "InvalidNumber.__init__") = true)
    (cno10 : PySem.W.findIn K (.ref Cx10) (Str.ofString "value") = some none)
    (ca11 : PySem.W.nsIn K mainGlobals (Str.ofString "UnknownName") = some (some (.ref Cx11)))
    (ck11 : PySem.W.keepIn K (.ref Cx11) = true)
    (cb11 : PySem.W.subIn K (.ref Cx11) (.type "BaseException") = some true)
    (cy11 : PySem.W.typeIn K (.ref Cx11) = some (.type "type"))
    (ci11 : PySem.W.isClsIn K Cx11 = true)
    (cl11 : K.lookup Cx11 = some ⟨.type "type", idd11, cdt11, csl11⟩)
    (ch11 : iniB Cx11 [.type "KeyError", .type "LookupError", .type "Exception", .type "BaseException", .type "object"] "LookupError.__new__" cdt11 csl11 = true)
    (ct_11 : PySem.W.takerIn K Cx11 (Str.ofString "name") = some none)
    (cs11 : PySem.W.findIn K (.ref Cx11) "__setattr__" = some (some (.builtin "object.__setattr__")))
    (cn11 : PySem.W.findIn K (.ref Cx11) "__init__" = some (some (.ref I11)))
    (cf11 : PySem.W.typeIn K (.ref I11) = some (.type "function"))
    (cli11 : K.lookup I11 = some ⟨ioc11, iod11, .func (PySem.W.fnOf "__init__" (Str.ofString "UnknownName.__init__") (defArgs ((C8.clsBody (topS 13)).getD 0 (.Pass ⟨0, 0, 0, 0⟩))) (defBody ((C8.clsBody (topS 13)).getD 0 (.Pass ⟨0, 0, 0, 0⟩))) (defScope ((C8.clsBody (topS 13)).getD 0 (.Pass ⟨0, 0, 0, 0⟩))) .none ikV11 idc11 ipm11 ian11 icd11 ict11), isl11⟩)
    (cci11 : PySem.W.codeIn K icd11 (Str.ofString "UnknownName.__init__") = true)
    (cno11 : PySem.W.findIn K (.ref Cx11) (Str.ofString "name") = some none)
    (ca12 : PySem.W.nsIn K mainGlobals (Str.ofString "TooMany") = some (some (.ref Cx12)))
    (ck12 : PySem.W.keepIn K (.ref Cx12) = true)
    (cb12 : PySem.W.subIn K (.ref Cx12) (.type "BaseException") = some true)
    (cy12 : PySem.W.typeIn K (.ref Cx12) = some (.type "type"))
    (ci12 : PySem.W.isClsIn K Cx12 = true)
    (cl12 : K.lookup Cx12 = some ⟨.type "type", idd12, cdt12, csl12⟩)
    (ch12 : iniB Cx12 [.type "OverflowError", .type "ArithmeticError", .type "Exception", .type "BaseException", .type "object"] "OverflowError.__new__" cdt12 csl12 = true)
    (ct_12 : PySem.W.takerIn K Cx12 (Str.ofString "limit") = some none)
    (cs12 : PySem.W.findIn K (.ref Cx12) "__setattr__" = some (some (.builtin "object.__setattr__")))
    (cn12 : PySem.W.findIn K (.ref Cx12) "__init__" = some (some (.ref I12)))
    (cf12 : PySem.W.typeIn K (.ref I12) = some (.type "function"))
    (cli12 : K.lookup I12 = some ⟨ioc12, iod12, .func (PySem.W.fnOf "__init__" (Str.ofString "TooMany.__init__") (defArgs ((C8.clsBody (topS 14)).getD 0 (.Pass ⟨0, 0, 0, 0⟩))) (defBody ((C8.clsBody (topS 14)).getD 0 (.Pass ⟨0, 0, 0, 0⟩))) (defScope ((C8.clsBody (topS 14)).getD 0 (.Pass ⟨0, 0, 0, 0⟩))) .none ikV12 idc12 ipm12 ian12 icd12 ict12), isl12⟩)
    (cci12 : PySem.W.codeIn K icd12 (Str.ofString "TooMany.__init__") = true)
    (cno12 : PySem.W.findIn K (.ref Cx12) (Str.ofString "limit") = some none)
    (ca13 : PySem.W.nsIn K mainGlobals (Str.ofString "Missing") = some (some (.ref Cx13)))
    (ck13 : PySem.W.keepIn K (.ref Cx13) = true)
    (cb13 : PySem.W.subIn K (.ref Cx13) (.type "BaseException") = some true)
    (cy13 : PySem.W.typeIn K (.ref Cx13) = some (.type "type"))
    (ci13 : PySem.W.isClsIn K Cx13 = true)
    (cl13 : K.lookup Cx13 = some ⟨.type "type", idd13, cdt13, csl13⟩)
    (ch13 : iniB Cx13 [.type "LookupError", .type "Exception", .type "BaseException", .type "object"] "LookupError.__new__" cdt13 csl13 = true)
    (ct_13 : PySem.W.takerIn K Cx13 (Str.ofString "answer") = some none)
    (cs13 : PySem.W.findIn K (.ref Cx13) "__setattr__" = some (some (.builtin "object.__setattr__")))
    (cn13 : PySem.W.findIn K (.ref Cx13) "__init__" = some (some (.ref I13)))
    (cf13 : PySem.W.typeIn K (.ref I13) = some (.type "function"))
    (cli13 : K.lookup I13 = some ⟨ioc13, iod13, .func (PySem.W.fnOf "__init__" (Str.ofString "Missing.__init__") (defArgs ((C8.clsBody (topS 15)).getD 0 (.Pass ⟨0, 0, 0, 0⟩))) (defBody ((C8.clsBody (topS 15)).getD 0 (.Pass ⟨0, 0, 0, 0⟩))) (defScope ((C8.clsBody (topS 15)).getD 0 (.Pass ⟨0, 0, 0, 0⟩))) .none ikV13 idc13 ipm13 ian13 icd13 ict13), isl13⟩)
    (cci13 : PySem.W.codeIn K icd13 (Str.ofString "Missing.__init__") = true)
    (cno13 : PySem.W.findIn K (.ref Cx13) (Str.ofString "answer") = some none)
    (ca14 : PySem.W.nsIn K mainGlobals (Str.ofString "NothingToUndo") = some (some (.ref Cx14)))
    (ck14 : PySem.W.keepIn K (.ref Cx14) = true)
    (cb14 : PySem.W.subIn K (.ref Cx14) (.type "BaseException") = some true)
    (cy14 : PySem.W.typeIn K (.ref Cx14) = some (.type "type"))
    (ci14 : PySem.W.isClsIn K Cx14 = true)
    (cl14 : K.lookup Cx14 = some ⟨.type "type", idd14, cdt14, csl14⟩)
    (ch14 : iniB Cx14 [.type "ArithmeticError", .type "Exception", .type "BaseException", .type "object"] "ArithmeticError.__new__" cdt14 csl14 = true)
    (ct_14 : PySem.W.takerIn K Cx14 (Str.ofString "many") = some none)
    (cs14 : PySem.W.findIn K (.ref Cx14) "__setattr__" = some (some (.builtin "object.__setattr__")))
    (cn14 : PySem.W.findIn K (.ref Cx14) "__init__" = some (some (.ref I14)))
    (cf14 : PySem.W.typeIn K (.ref I14) = some (.type "function"))
    (cli14 : K.lookup I14 = some ⟨ioc14, iod14, .func (PySem.W.fnOf "__init__" (Str.ofString "NothingToUndo.__init__") (defArgs ((C8.clsBody (topS 16)).getD 0 (.Pass ⟨0, 0, 0, 0⟩))) (defBody ((C8.clsBody (topS 16)).getD 0 (.Pass ⟨0, 0, 0, 0⟩))) (defScope ((C8.clsBody (topS 16)).getD 0 (.Pass ⟨0, 0, 0, 0⟩))) .none ikV14 idc14 ipm14 ian14 icd14 ict14), isl14⟩)
    (cci14 : PySem.W.codeIn K icd14 (Str.ofString "NothingToUndo.__init__") = true)
    (cno14 : PySem.W.findIn K (.ref Cx14) (Str.ofString "many") = some none)
    (xhn : PySem.W.specialIn K (.builtin "object.__class__") "__get__" = some (some (.builtin "getset_descriptor.__get__")))
    (xht : PySem.W.takesIn K (.builtin "object.__class__") = some true)
    (cg0 : PySem.W.findIn K (.ref Cx0) "__getattribute__" = some (some (.builtin "BaseException.__getattribute__")))
    (cgg0 : PySem.W.findIn K (.ref Cx0) "__getattr__" = some none)
    (chd0 : PySem.W.hasDictIn K Cx0 = true)
    (cha0 : PySem.W.findIn K (.ref Cx0) "__class__" = some (some (.builtin "object.__class__")))
    (chm0 : PySem.W.mroIn K Cx0 (.type "object") = some true)
    (sb0_ValueError : PySem.W.subIn K (.ref Cx0) (.type "ValueError") = some true)
    (sb0_IndexError : PySem.W.subIn K (.ref Cx0) (.type "IndexError") = some false)
    (sb0_KeyError : PySem.W.subIn K (.ref Cx0) (.type "KeyError") = some false)
    (sb0_OverflowError : PySem.W.subIn K (.ref Cx0) (.type "OverflowError") = some false)
    (sb0_LookupError : PySem.W.subIn K (.ref Cx0) (.type "LookupError") = some false)
    (sb0_ArithmeticError : PySem.W.subIn K (.ref Cx0) (.type "ArithmeticError") = some false)
    (cg1 : PySem.W.findIn K (.ref Cx1) "__getattribute__" = some (some (.builtin "BaseException.__getattribute__")))
    (cgg1 : PySem.W.findIn K (.ref Cx1) "__getattr__" = some none)
    (chd1 : PySem.W.hasDictIn K Cx1 = true)
    (cha1 : PySem.W.findIn K (.ref Cx1) "__class__" = some (some (.builtin "object.__class__")))
    (chm1 : PySem.W.mroIn K Cx1 (.type "object") = some true)
    (sb1_ValueError : PySem.W.subIn K (.ref Cx1) (.type "ValueError") = some true)
    (sb1_IndexError : PySem.W.subIn K (.ref Cx1) (.type "IndexError") = some false)
    (sb1_KeyError : PySem.W.subIn K (.ref Cx1) (.type "KeyError") = some false)
    (sb1_OverflowError : PySem.W.subIn K (.ref Cx1) (.type "OverflowError") = some false)
    (sb1_LookupError : PySem.W.subIn K (.ref Cx1) (.type "LookupError") = some false)
    (sb1_ArithmeticError : PySem.W.subIn K (.ref Cx1) (.type "ArithmeticError") = some false)
    (cg2 : PySem.W.findIn K (.ref Cx2) "__getattribute__" = some (some (.builtin "BaseException.__getattribute__")))
    (cgg2 : PySem.W.findIn K (.ref Cx2) "__getattr__" = some none)
    (chd2 : PySem.W.hasDictIn K Cx2 = true)
    (cha2 : PySem.W.findIn K (.ref Cx2) "__class__" = some (some (.builtin "object.__class__")))
    (chm2 : PySem.W.mroIn K Cx2 (.type "object") = some true)
    (sb2_ValueError : PySem.W.subIn K (.ref Cx2) (.type "ValueError") = some true)
    (sb2_IndexError : PySem.W.subIn K (.ref Cx2) (.type "IndexError") = some false)
    (sb2_KeyError : PySem.W.subIn K (.ref Cx2) (.type "KeyError") = some false)
    (sb2_OverflowError : PySem.W.subIn K (.ref Cx2) (.type "OverflowError") = some false)
    (sb2_LookupError : PySem.W.subIn K (.ref Cx2) (.type "LookupError") = some false)
    (sb2_ArithmeticError : PySem.W.subIn K (.ref Cx2) (.type "ArithmeticError") = some false)
    (cg3 : PySem.W.findIn K (.ref Cx3) "__getattribute__" = some (some (.builtin "BaseException.__getattribute__")))
    (cgg3 : PySem.W.findIn K (.ref Cx3) "__getattr__" = some none)
    (chd3 : PySem.W.hasDictIn K Cx3 = true)
    (cha3 : PySem.W.findIn K (.ref Cx3) "__class__" = some (some (.builtin "object.__class__")))
    (chm3 : PySem.W.mroIn K Cx3 (.type "object") = some true)
    (sb3_ValueError : PySem.W.subIn K (.ref Cx3) (.type "ValueError") = some true)
    (sb3_IndexError : PySem.W.subIn K (.ref Cx3) (.type "IndexError") = some false)
    (sb3_KeyError : PySem.W.subIn K (.ref Cx3) (.type "KeyError") = some false)
    (sb3_OverflowError : PySem.W.subIn K (.ref Cx3) (.type "OverflowError") = some false)
    (sb3_LookupError : PySem.W.subIn K (.ref Cx3) (.type "LookupError") = some false)
    (sb3_ArithmeticError : PySem.W.subIn K (.ref Cx3) (.type "ArithmeticError") = some false)
    (cg4 : PySem.W.findIn K (.ref Cx4) "__getattribute__" = some (some (.builtin "BaseException.__getattribute__")))
    (cgg4 : PySem.W.findIn K (.ref Cx4) "__getattr__" = some none)
    (chd4 : PySem.W.hasDictIn K Cx4 = true)
    (cha4 : PySem.W.findIn K (.ref Cx4) "__class__" = some (some (.builtin "object.__class__")))
    (chm4 : PySem.W.mroIn K Cx4 (.type "object") = some true)
    (sb4_ValueError : PySem.W.subIn K (.ref Cx4) (.type "ValueError") = some true)
    (sb4_IndexError : PySem.W.subIn K (.ref Cx4) (.type "IndexError") = some false)
    (sb4_KeyError : PySem.W.subIn K (.ref Cx4) (.type "KeyError") = some false)
    (sb4_OverflowError : PySem.W.subIn K (.ref Cx4) (.type "OverflowError") = some false)
    (sb4_LookupError : PySem.W.subIn K (.ref Cx4) (.type "LookupError") = some false)
    (sb4_ArithmeticError : PySem.W.subIn K (.ref Cx4) (.type "ArithmeticError") = some false)
    (cg5 : PySem.W.findIn K (.ref Cx5) "__getattribute__" = some (some (.builtin "BaseException.__getattribute__")))
    (cgg5 : PySem.W.findIn K (.ref Cx5) "__getattr__" = some none)
    (chd5 : PySem.W.hasDictIn K Cx5 = true)
    (cha5 : PySem.W.findIn K (.ref Cx5) "__class__" = some (some (.builtin "object.__class__")))
    (chm5 : PySem.W.mroIn K Cx5 (.type "object") = some true)
    (sb5_ValueError : PySem.W.subIn K (.ref Cx5) (.type "ValueError") = some true)
    (sb5_IndexError : PySem.W.subIn K (.ref Cx5) (.type "IndexError") = some false)
    (sb5_KeyError : PySem.W.subIn K (.ref Cx5) (.type "KeyError") = some false)
    (sb5_OverflowError : PySem.W.subIn K (.ref Cx5) (.type "OverflowError") = some false)
    (sb5_LookupError : PySem.W.subIn K (.ref Cx5) (.type "LookupError") = some false)
    (sb5_ArithmeticError : PySem.W.subIn K (.ref Cx5) (.type "ArithmeticError") = some false)
    (cg6 : PySem.W.findIn K (.ref Cx6) "__getattribute__" = some (some (.builtin "BaseException.__getattribute__")))
    (cgg6 : PySem.W.findIn K (.ref Cx6) "__getattr__" = some none)
    (chd6 : PySem.W.hasDictIn K Cx6 = true)
    (cha6 : PySem.W.findIn K (.ref Cx6) "__class__" = some (some (.builtin "object.__class__")))
    (chm6 : PySem.W.mroIn K Cx6 (.type "object") = some true)
    (sb6_ValueError : PySem.W.subIn K (.ref Cx6) (.type "ValueError") = some true)
    (sb6_IndexError : PySem.W.subIn K (.ref Cx6) (.type "IndexError") = some false)
    (sb6_KeyError : PySem.W.subIn K (.ref Cx6) (.type "KeyError") = some false)
    (sb6_OverflowError : PySem.W.subIn K (.ref Cx6) (.type "OverflowError") = some false)
    (sb6_LookupError : PySem.W.subIn K (.ref Cx6) (.type "LookupError") = some false)
    (sb6_ArithmeticError : PySem.W.subIn K (.ref Cx6) (.type "ArithmeticError") = some false)
    (cg7 : PySem.W.findIn K (.ref Cx7) "__getattribute__" = some (some (.builtin "BaseException.__getattribute__")))
    (cgg7 : PySem.W.findIn K (.ref Cx7) "__getattr__" = some none)
    (chd7 : PySem.W.hasDictIn K Cx7 = true)
    (cha7 : PySem.W.findIn K (.ref Cx7) "__class__" = some (some (.builtin "object.__class__")))
    (chm7 : PySem.W.mroIn K Cx7 (.type "object") = some true)
    (sb7_ValueError : PySem.W.subIn K (.ref Cx7) (.type "ValueError") = some true)
    (sb7_IndexError : PySem.W.subIn K (.ref Cx7) (.type "IndexError") = some false)
    (sb7_KeyError : PySem.W.subIn K (.ref Cx7) (.type "KeyError") = some false)
    (sb7_OverflowError : PySem.W.subIn K (.ref Cx7) (.type "OverflowError") = some false)
    (sb7_LookupError : PySem.W.subIn K (.ref Cx7) (.type "LookupError") = some false)
    (sb7_ArithmeticError : PySem.W.subIn K (.ref Cx7) (.type "ArithmeticError") = some false)
    (cg8 : PySem.W.findIn K (.ref Cx8) "__getattribute__" = some (some (.builtin "BaseException.__getattribute__")))
    (cgg8 : PySem.W.findIn K (.ref Cx8) "__getattr__" = some none)
    (chd8 : PySem.W.hasDictIn K Cx8 = true)
    (cha8 : PySem.W.findIn K (.ref Cx8) "__class__" = some (some (.builtin "object.__class__")))
    (chm8 : PySem.W.mroIn K Cx8 (.type "object") = some true)
    (sb8_ValueError : PySem.W.subIn K (.ref Cx8) (.type "ValueError") = some true)
    (sb8_IndexError : PySem.W.subIn K (.ref Cx8) (.type "IndexError") = some false)
    (sb8_KeyError : PySem.W.subIn K (.ref Cx8) (.type "KeyError") = some false)
    (sb8_OverflowError : PySem.W.subIn K (.ref Cx8) (.type "OverflowError") = some false)
    (sb8_LookupError : PySem.W.subIn K (.ref Cx8) (.type "LookupError") = some false)
    (sb8_ArithmeticError : PySem.W.subIn K (.ref Cx8) (.type "ArithmeticError") = some false)
    (cg9 : PySem.W.findIn K (.ref Cx9) "__getattribute__" = some (some (.builtin "BaseException.__getattribute__")))
    (cgg9 : PySem.W.findIn K (.ref Cx9) "__getattr__" = some none)
    (chd9 : PySem.W.hasDictIn K Cx9 = true)
    (cha9 : PySem.W.findIn K (.ref Cx9) "__class__" = some (some (.builtin "object.__class__")))
    (chm9 : PySem.W.mroIn K Cx9 (.type "object") = some true)
    (sb9_ValueError : PySem.W.subIn K (.ref Cx9) (.type "ValueError") = some true)
    (sb9_IndexError : PySem.W.subIn K (.ref Cx9) (.type "IndexError") = some false)
    (sb9_KeyError : PySem.W.subIn K (.ref Cx9) (.type "KeyError") = some false)
    (sb9_OverflowError : PySem.W.subIn K (.ref Cx9) (.type "OverflowError") = some false)
    (sb9_LookupError : PySem.W.subIn K (.ref Cx9) (.type "LookupError") = some false)
    (sb9_ArithmeticError : PySem.W.subIn K (.ref Cx9) (.type "ArithmeticError") = some false)
    (cg10 : PySem.W.findIn K (.ref Cx10) "__getattribute__" = some (some (.builtin "BaseException.__getattribute__")))
    (cgg10 : PySem.W.findIn K (.ref Cx10) "__getattr__" = some none)
    (chd10 : PySem.W.hasDictIn K Cx10 = true)
    (cha10 : PySem.W.findIn K (.ref Cx10) "__class__" = some (some (.builtin "object.__class__")))
    (chm10 : PySem.W.mroIn K Cx10 (.type "object") = some true)
    (sb10_ValueError : PySem.W.subIn K (.ref Cx10) (.type "ValueError") = some false)
    (sb10_IndexError : PySem.W.subIn K (.ref Cx10) (.type "IndexError") = some true)
    (sb10_KeyError : PySem.W.subIn K (.ref Cx10) (.type "KeyError") = some false)
    (sb10_OverflowError : PySem.W.subIn K (.ref Cx10) (.type "OverflowError") = some false)
    (sb10_LookupError : PySem.W.subIn K (.ref Cx10) (.type "LookupError") = some true)
    (sb10_ArithmeticError : PySem.W.subIn K (.ref Cx10) (.type "ArithmeticError") = some false)
    (cg11 : PySem.W.findIn K (.ref Cx11) "__getattribute__" = some (some (.builtin "BaseException.__getattribute__")))
    (cgg11 : PySem.W.findIn K (.ref Cx11) "__getattr__" = some none)
    (chd11 : PySem.W.hasDictIn K Cx11 = true)
    (cha11 : PySem.W.findIn K (.ref Cx11) "__class__" = some (some (.builtin "object.__class__")))
    (chm11 : PySem.W.mroIn K Cx11 (.type "object") = some true)
    (sb11_ValueError : PySem.W.subIn K (.ref Cx11) (.type "ValueError") = some false)
    (sb11_IndexError : PySem.W.subIn K (.ref Cx11) (.type "IndexError") = some false)
    (sb11_KeyError : PySem.W.subIn K (.ref Cx11) (.type "KeyError") = some true)
    (sb11_OverflowError : PySem.W.subIn K (.ref Cx11) (.type "OverflowError") = some false)
    (sb11_LookupError : PySem.W.subIn K (.ref Cx11) (.type "LookupError") = some true)
    (sb11_ArithmeticError : PySem.W.subIn K (.ref Cx11) (.type "ArithmeticError") = some false)
    (cg12 : PySem.W.findIn K (.ref Cx12) "__getattribute__" = some (some (.builtin "BaseException.__getattribute__")))
    (cgg12 : PySem.W.findIn K (.ref Cx12) "__getattr__" = some none)
    (chd12 : PySem.W.hasDictIn K Cx12 = true)
    (cha12 : PySem.W.findIn K (.ref Cx12) "__class__" = some (some (.builtin "object.__class__")))
    (chm12 : PySem.W.mroIn K Cx12 (.type "object") = some true)
    (sb12_ValueError : PySem.W.subIn K (.ref Cx12) (.type "ValueError") = some false)
    (sb12_IndexError : PySem.W.subIn K (.ref Cx12) (.type "IndexError") = some false)
    (sb12_KeyError : PySem.W.subIn K (.ref Cx12) (.type "KeyError") = some false)
    (sb12_OverflowError : PySem.W.subIn K (.ref Cx12) (.type "OverflowError") = some true)
    (sb12_LookupError : PySem.W.subIn K (.ref Cx12) (.type "LookupError") = some false)
    (sb12_ArithmeticError : PySem.W.subIn K (.ref Cx12) (.type "ArithmeticError") = some true)
    (cg13 : PySem.W.findIn K (.ref Cx13) "__getattribute__" = some (some (.builtin "BaseException.__getattribute__")))
    (cgg13 : PySem.W.findIn K (.ref Cx13) "__getattr__" = some none)
    (chd13 : PySem.W.hasDictIn K Cx13 = true)
    (cha13 : PySem.W.findIn K (.ref Cx13) "__class__" = some (some (.builtin "object.__class__")))
    (chm13 : PySem.W.mroIn K Cx13 (.type "object") = some true)
    (sb13_ValueError : PySem.W.subIn K (.ref Cx13) (.type "ValueError") = some false)
    (sb13_IndexError : PySem.W.subIn K (.ref Cx13) (.type "IndexError") = some false)
    (sb13_KeyError : PySem.W.subIn K (.ref Cx13) (.type "KeyError") = some false)
    (sb13_OverflowError : PySem.W.subIn K (.ref Cx13) (.type "OverflowError") = some false)
    (sb13_LookupError : PySem.W.subIn K (.ref Cx13) (.type "LookupError") = some true)
    (sb13_ArithmeticError : PySem.W.subIn K (.ref Cx13) (.type "ArithmeticError") = some false)
    (cg14 : PySem.W.findIn K (.ref Cx14) "__getattribute__" = some (some (.builtin "BaseException.__getattribute__")))
    (cgg14 : PySem.W.findIn K (.ref Cx14) "__getattr__" = some none)
    (chd14 : PySem.W.hasDictIn K Cx14 = true)
    (cha14 : PySem.W.findIn K (.ref Cx14) "__class__" = some (some (.builtin "object.__class__")))
    (chm14 : PySem.W.mroIn K Cx14 (.type "object") = some true)
    (sb14_ValueError : PySem.W.subIn K (.ref Cx14) (.type "ValueError") = some false)
    (sb14_IndexError : PySem.W.subIn K (.ref Cx14) (.type "IndexError") = some false)
    (sb14_KeyError : PySem.W.subIn K (.ref Cx14) (.type "KeyError") = some false)
    (sb14_OverflowError : PySem.W.subIn K (.ref Cx14) (.type "OverflowError") = some false)
    (sb14_LookupError : PySem.W.subIn K (.ref Cx14) (.type "LookupError") = some false)
    (sb14_ArithmeticError : PySem.W.subIn K (.ref Cx14) (.type "ArithmeticError") = some true)
    (s0_0 : PySem.W.subIn K (.ref Cx0) (.ref Cx0) = some true)
    (s0_1 : PySem.W.subIn K (.ref Cx0) (.ref Cx1) = some false)
    (s0_2 : PySem.W.subIn K (.ref Cx0) (.ref Cx2) = some false)
    (s0_3 : PySem.W.subIn K (.ref Cx0) (.ref Cx3) = some false)
    (s0_4 : PySem.W.subIn K (.ref Cx0) (.ref Cx4) = some false)
    (s0_5 : PySem.W.subIn K (.ref Cx0) (.ref Cx5) = some false)
    (s0_6 : PySem.W.subIn K (.ref Cx0) (.ref Cx6) = some false)
    (s0_7 : PySem.W.subIn K (.ref Cx0) (.ref Cx7) = some false)
    (s0_8 : PySem.W.subIn K (.ref Cx0) (.ref Cx8) = some false)
    (s0_9 : PySem.W.subIn K (.ref Cx0) (.ref Cx9) = some false)
    (s0_10 : PySem.W.subIn K (.ref Cx0) (.ref Cx10) = some false)
    (s0_11 : PySem.W.subIn K (.ref Cx0) (.ref Cx11) = some false)
    (s0_12 : PySem.W.subIn K (.ref Cx0) (.ref Cx12) = some false)
    (s0_13 : PySem.W.subIn K (.ref Cx0) (.ref Cx13) = some false)
    (s0_14 : PySem.W.subIn K (.ref Cx0) (.ref Cx14) = some false)
    (s1_0 : PySem.W.subIn K (.ref Cx1) (.ref Cx0) = some true)
    (s1_1 : PySem.W.subIn K (.ref Cx1) (.ref Cx1) = some true)
    (s1_2 : PySem.W.subIn K (.ref Cx1) (.ref Cx2) = some false)
    (s1_3 : PySem.W.subIn K (.ref Cx1) (.ref Cx3) = some false)
    (s1_4 : PySem.W.subIn K (.ref Cx1) (.ref Cx4) = some false)
    (s1_5 : PySem.W.subIn K (.ref Cx1) (.ref Cx5) = some false)
    (s1_6 : PySem.W.subIn K (.ref Cx1) (.ref Cx6) = some false)
    (s1_7 : PySem.W.subIn K (.ref Cx1) (.ref Cx7) = some false)
    (s1_8 : PySem.W.subIn K (.ref Cx1) (.ref Cx8) = some false)
    (s1_9 : PySem.W.subIn K (.ref Cx1) (.ref Cx9) = some false)
    (s1_10 : PySem.W.subIn K (.ref Cx1) (.ref Cx10) = some false)
    (s1_11 : PySem.W.subIn K (.ref Cx1) (.ref Cx11) = some false)
    (s1_12 : PySem.W.subIn K (.ref Cx1) (.ref Cx12) = some false)
    (s1_13 : PySem.W.subIn K (.ref Cx1) (.ref Cx13) = some false)
    (s1_14 : PySem.W.subIn K (.ref Cx1) (.ref Cx14) = some false)
    (s2_0 : PySem.W.subIn K (.ref Cx2) (.ref Cx0) = some true)
    (s2_1 : PySem.W.subIn K (.ref Cx2) (.ref Cx1) = some false)
    (s2_2 : PySem.W.subIn K (.ref Cx2) (.ref Cx2) = some true)
    (s2_3 : PySem.W.subIn K (.ref Cx2) (.ref Cx3) = some false)
    (s2_4 : PySem.W.subIn K (.ref Cx2) (.ref Cx4) = some false)
    (s2_5 : PySem.W.subIn K (.ref Cx2) (.ref Cx5) = some false)
    (s2_6 : PySem.W.subIn K (.ref Cx2) (.ref Cx6) = some false)
    (s2_7 : PySem.W.subIn K (.ref Cx2) (.ref Cx7) = some false)
    (s2_8 : PySem.W.subIn K (.ref Cx2) (.ref Cx8) = some false)
    (s2_9 : PySem.W.subIn K (.ref Cx2) (.ref Cx9) = some false)
    (s2_10 : PySem.W.subIn K (.ref Cx2) (.ref Cx10) = some false)
    (s2_11 : PySem.W.subIn K (.ref Cx2) (.ref Cx11) = some false)
    (s2_12 : PySem.W.subIn K (.ref Cx2) (.ref Cx12) = some false)
    (s2_13 : PySem.W.subIn K (.ref Cx2) (.ref Cx13) = some false)
    (s2_14 : PySem.W.subIn K (.ref Cx2) (.ref Cx14) = some false)
    (s3_0 : PySem.W.subIn K (.ref Cx3) (.ref Cx0) = some true)
    (s3_1 : PySem.W.subIn K (.ref Cx3) (.ref Cx1) = some false)
    (s3_2 : PySem.W.subIn K (.ref Cx3) (.ref Cx2) = some false)
    (s3_3 : PySem.W.subIn K (.ref Cx3) (.ref Cx3) = some true)
    (s3_4 : PySem.W.subIn K (.ref Cx3) (.ref Cx4) = some false)
    (s3_5 : PySem.W.subIn K (.ref Cx3) (.ref Cx5) = some false)
    (s3_6 : PySem.W.subIn K (.ref Cx3) (.ref Cx6) = some false)
    (s3_7 : PySem.W.subIn K (.ref Cx3) (.ref Cx7) = some false)
    (s3_8 : PySem.W.subIn K (.ref Cx3) (.ref Cx8) = some false)
    (s3_9 : PySem.W.subIn K (.ref Cx3) (.ref Cx9) = some false)
    (s3_10 : PySem.W.subIn K (.ref Cx3) (.ref Cx10) = some false)
    (s3_11 : PySem.W.subIn K (.ref Cx3) (.ref Cx11) = some false)
    (s3_12 : PySem.W.subIn K (.ref Cx3) (.ref Cx12) = some false)
    (s3_13 : PySem.W.subIn K (.ref Cx3) (.ref Cx13) = some false)
    (s3_14 : PySem.W.subIn K (.ref Cx3) (.ref Cx14) = some false)
    (s4_0 : PySem.W.subIn K (.ref Cx4) (.ref Cx0) = some true)
    (s4_1 : PySem.W.subIn K (.ref Cx4) (.ref Cx1) = some false)
    (s4_2 : PySem.W.subIn K (.ref Cx4) (.ref Cx2) = some false)
    (s4_3 : PySem.W.subIn K (.ref Cx4) (.ref Cx3) = some false)
    (s4_4 : PySem.W.subIn K (.ref Cx4) (.ref Cx4) = some true)
    (s4_5 : PySem.W.subIn K (.ref Cx4) (.ref Cx5) = some false)
    (s4_6 : PySem.W.subIn K (.ref Cx4) (.ref Cx6) = some false)
    (s4_7 : PySem.W.subIn K (.ref Cx4) (.ref Cx7) = some false)
    (s4_8 : PySem.W.subIn K (.ref Cx4) (.ref Cx8) = some false)
    (s4_9 : PySem.W.subIn K (.ref Cx4) (.ref Cx9) = some false)
    (s4_10 : PySem.W.subIn K (.ref Cx4) (.ref Cx10) = some false)
    (s4_11 : PySem.W.subIn K (.ref Cx4) (.ref Cx11) = some false)
    (s4_12 : PySem.W.subIn K (.ref Cx4) (.ref Cx12) = some false)
    (s4_13 : PySem.W.subIn K (.ref Cx4) (.ref Cx13) = some false)
    (s4_14 : PySem.W.subIn K (.ref Cx4) (.ref Cx14) = some false)
    (s5_0 : PySem.W.subIn K (.ref Cx5) (.ref Cx0) = some true)
    (s5_1 : PySem.W.subIn K (.ref Cx5) (.ref Cx1) = some false)
    (s5_2 : PySem.W.subIn K (.ref Cx5) (.ref Cx2) = some false)
    (s5_3 : PySem.W.subIn K (.ref Cx5) (.ref Cx3) = some false)
    (s5_4 : PySem.W.subIn K (.ref Cx5) (.ref Cx4) = some false)
    (s5_5 : PySem.W.subIn K (.ref Cx5) (.ref Cx5) = some true)
    (s5_6 : PySem.W.subIn K (.ref Cx5) (.ref Cx6) = some false)
    (s5_7 : PySem.W.subIn K (.ref Cx5) (.ref Cx7) = some false)
    (s5_8 : PySem.W.subIn K (.ref Cx5) (.ref Cx8) = some false)
    (s5_9 : PySem.W.subIn K (.ref Cx5) (.ref Cx9) = some false)
    (s5_10 : PySem.W.subIn K (.ref Cx5) (.ref Cx10) = some false)
    (s5_11 : PySem.W.subIn K (.ref Cx5) (.ref Cx11) = some false)
    (s5_12 : PySem.W.subIn K (.ref Cx5) (.ref Cx12) = some false)
    (s5_13 : PySem.W.subIn K (.ref Cx5) (.ref Cx13) = some false)
    (s5_14 : PySem.W.subIn K (.ref Cx5) (.ref Cx14) = some false)
    (s6_0 : PySem.W.subIn K (.ref Cx6) (.ref Cx0) = some true)
    (s6_1 : PySem.W.subIn K (.ref Cx6) (.ref Cx1) = some false)
    (s6_2 : PySem.W.subIn K (.ref Cx6) (.ref Cx2) = some false)
    (s6_3 : PySem.W.subIn K (.ref Cx6) (.ref Cx3) = some false)
    (s6_4 : PySem.W.subIn K (.ref Cx6) (.ref Cx4) = some false)
    (s6_5 : PySem.W.subIn K (.ref Cx6) (.ref Cx5) = some false)
    (s6_6 : PySem.W.subIn K (.ref Cx6) (.ref Cx6) = some true)
    (s6_7 : PySem.W.subIn K (.ref Cx6) (.ref Cx7) = some false)
    (s6_8 : PySem.W.subIn K (.ref Cx6) (.ref Cx8) = some false)
    (s6_9 : PySem.W.subIn K (.ref Cx6) (.ref Cx9) = some false)
    (s6_10 : PySem.W.subIn K (.ref Cx6) (.ref Cx10) = some false)
    (s6_11 : PySem.W.subIn K (.ref Cx6) (.ref Cx11) = some false)
    (s6_12 : PySem.W.subIn K (.ref Cx6) (.ref Cx12) = some false)
    (s6_13 : PySem.W.subIn K (.ref Cx6) (.ref Cx13) = some false)
    (s6_14 : PySem.W.subIn K (.ref Cx6) (.ref Cx14) = some false)
    (s7_0 : PySem.W.subIn K (.ref Cx7) (.ref Cx0) = some true)
    (s7_1 : PySem.W.subIn K (.ref Cx7) (.ref Cx1) = some false)
    (s7_2 : PySem.W.subIn K (.ref Cx7) (.ref Cx2) = some false)
    (s7_3 : PySem.W.subIn K (.ref Cx7) (.ref Cx3) = some false)
    (s7_4 : PySem.W.subIn K (.ref Cx7) (.ref Cx4) = some false)
    (s7_5 : PySem.W.subIn K (.ref Cx7) (.ref Cx5) = some false)
    (s7_6 : PySem.W.subIn K (.ref Cx7) (.ref Cx6) = some false)
    (s7_7 : PySem.W.subIn K (.ref Cx7) (.ref Cx7) = some true)
    (s7_8 : PySem.W.subIn K (.ref Cx7) (.ref Cx8) = some false)
    (s7_9 : PySem.W.subIn K (.ref Cx7) (.ref Cx9) = some false)
    (s7_10 : PySem.W.subIn K (.ref Cx7) (.ref Cx10) = some false)
    (s7_11 : PySem.W.subIn K (.ref Cx7) (.ref Cx11) = some false)
    (s7_12 : PySem.W.subIn K (.ref Cx7) (.ref Cx12) = some false)
    (s7_13 : PySem.W.subIn K (.ref Cx7) (.ref Cx13) = some false)
    (s7_14 : PySem.W.subIn K (.ref Cx7) (.ref Cx14) = some false)
    (s8_0 : PySem.W.subIn K (.ref Cx8) (.ref Cx0) = some true)
    (s8_1 : PySem.W.subIn K (.ref Cx8) (.ref Cx1) = some false)
    (s8_2 : PySem.W.subIn K (.ref Cx8) (.ref Cx2) = some false)
    (s8_3 : PySem.W.subIn K (.ref Cx8) (.ref Cx3) = some false)
    (s8_4 : PySem.W.subIn K (.ref Cx8) (.ref Cx4) = some false)
    (s8_5 : PySem.W.subIn K (.ref Cx8) (.ref Cx5) = some false)
    (s8_6 : PySem.W.subIn K (.ref Cx8) (.ref Cx6) = some false)
    (s8_7 : PySem.W.subIn K (.ref Cx8) (.ref Cx7) = some false)
    (s8_8 : PySem.W.subIn K (.ref Cx8) (.ref Cx8) = some true)
    (s8_9 : PySem.W.subIn K (.ref Cx8) (.ref Cx9) = some false)
    (s8_10 : PySem.W.subIn K (.ref Cx8) (.ref Cx10) = some false)
    (s8_11 : PySem.W.subIn K (.ref Cx8) (.ref Cx11) = some false)
    (s8_12 : PySem.W.subIn K (.ref Cx8) (.ref Cx12) = some false)
    (s8_13 : PySem.W.subIn K (.ref Cx8) (.ref Cx13) = some false)
    (s8_14 : PySem.W.subIn K (.ref Cx8) (.ref Cx14) = some false)
    (s9_0 : PySem.W.subIn K (.ref Cx9) (.ref Cx0) = some true)
    (s9_1 : PySem.W.subIn K (.ref Cx9) (.ref Cx1) = some false)
    (s9_2 : PySem.W.subIn K (.ref Cx9) (.ref Cx2) = some false)
    (s9_3 : PySem.W.subIn K (.ref Cx9) (.ref Cx3) = some false)
    (s9_4 : PySem.W.subIn K (.ref Cx9) (.ref Cx4) = some false)
    (s9_5 : PySem.W.subIn K (.ref Cx9) (.ref Cx5) = some false)
    (s9_6 : PySem.W.subIn K (.ref Cx9) (.ref Cx6) = some false)
    (s9_7 : PySem.W.subIn K (.ref Cx9) (.ref Cx7) = some false)
    (s9_8 : PySem.W.subIn K (.ref Cx9) (.ref Cx8) = some false)
    (s9_9 : PySem.W.subIn K (.ref Cx9) (.ref Cx9) = some true)
    (s9_10 : PySem.W.subIn K (.ref Cx9) (.ref Cx10) = some false)
    (s9_11 : PySem.W.subIn K (.ref Cx9) (.ref Cx11) = some false)
    (s9_12 : PySem.W.subIn K (.ref Cx9) (.ref Cx12) = some false)
    (s9_13 : PySem.W.subIn K (.ref Cx9) (.ref Cx13) = some false)
    (s9_14 : PySem.W.subIn K (.ref Cx9) (.ref Cx14) = some false)
    (s10_0 : PySem.W.subIn K (.ref Cx10) (.ref Cx0) = some false)
    (s10_1 : PySem.W.subIn K (.ref Cx10) (.ref Cx1) = some false)
    (s10_2 : PySem.W.subIn K (.ref Cx10) (.ref Cx2) = some false)
    (s10_3 : PySem.W.subIn K (.ref Cx10) (.ref Cx3) = some false)
    (s10_4 : PySem.W.subIn K (.ref Cx10) (.ref Cx4) = some false)
    (s10_5 : PySem.W.subIn K (.ref Cx10) (.ref Cx5) = some false)
    (s10_6 : PySem.W.subIn K (.ref Cx10) (.ref Cx6) = some false)
    (s10_7 : PySem.W.subIn K (.ref Cx10) (.ref Cx7) = some false)
    (s10_8 : PySem.W.subIn K (.ref Cx10) (.ref Cx8) = some false)
    (s10_9 : PySem.W.subIn K (.ref Cx10) (.ref Cx9) = some false)
    (s10_10 : PySem.W.subIn K (.ref Cx10) (.ref Cx10) = some true)
    (s10_11 : PySem.W.subIn K (.ref Cx10) (.ref Cx11) = some false)
    (s10_12 : PySem.W.subIn K (.ref Cx10) (.ref Cx12) = some false)
    (s10_13 : PySem.W.subIn K (.ref Cx10) (.ref Cx13) = some false)
    (s10_14 : PySem.W.subIn K (.ref Cx10) (.ref Cx14) = some false)
    (s11_0 : PySem.W.subIn K (.ref Cx11) (.ref Cx0) = some false)
    (s11_1 : PySem.W.subIn K (.ref Cx11) (.ref Cx1) = some false)
    (s11_2 : PySem.W.subIn K (.ref Cx11) (.ref Cx2) = some false)
    (s11_3 : PySem.W.subIn K (.ref Cx11) (.ref Cx3) = some false)
    (s11_4 : PySem.W.subIn K (.ref Cx11) (.ref Cx4) = some false)
    (s11_5 : PySem.W.subIn K (.ref Cx11) (.ref Cx5) = some false)
    (s11_6 : PySem.W.subIn K (.ref Cx11) (.ref Cx6) = some false)
    (s11_7 : PySem.W.subIn K (.ref Cx11) (.ref Cx7) = some false)
    (s11_8 : PySem.W.subIn K (.ref Cx11) (.ref Cx8) = some false)
    (s11_9 : PySem.W.subIn K (.ref Cx11) (.ref Cx9) = some false)
    (s11_10 : PySem.W.subIn K (.ref Cx11) (.ref Cx10) = some false)
    (s11_11 : PySem.W.subIn K (.ref Cx11) (.ref Cx11) = some true)
    (s11_12 : PySem.W.subIn K (.ref Cx11) (.ref Cx12) = some false)
    (s11_13 : PySem.W.subIn K (.ref Cx11) (.ref Cx13) = some false)
    (s11_14 : PySem.W.subIn K (.ref Cx11) (.ref Cx14) = some false)
    (s12_0 : PySem.W.subIn K (.ref Cx12) (.ref Cx0) = some false)
    (s12_1 : PySem.W.subIn K (.ref Cx12) (.ref Cx1) = some false)
    (s12_2 : PySem.W.subIn K (.ref Cx12) (.ref Cx2) = some false)
    (s12_3 : PySem.W.subIn K (.ref Cx12) (.ref Cx3) = some false)
    (s12_4 : PySem.W.subIn K (.ref Cx12) (.ref Cx4) = some false)
    (s12_5 : PySem.W.subIn K (.ref Cx12) (.ref Cx5) = some false)
    (s12_6 : PySem.W.subIn K (.ref Cx12) (.ref Cx6) = some false)
    (s12_7 : PySem.W.subIn K (.ref Cx12) (.ref Cx7) = some false)
    (s12_8 : PySem.W.subIn K (.ref Cx12) (.ref Cx8) = some false)
    (s12_9 : PySem.W.subIn K (.ref Cx12) (.ref Cx9) = some false)
    (s12_10 : PySem.W.subIn K (.ref Cx12) (.ref Cx10) = some false)
    (s12_11 : PySem.W.subIn K (.ref Cx12) (.ref Cx11) = some false)
    (s12_12 : PySem.W.subIn K (.ref Cx12) (.ref Cx12) = some true)
    (s12_13 : PySem.W.subIn K (.ref Cx12) (.ref Cx13) = some false)
    (s12_14 : PySem.W.subIn K (.ref Cx12) (.ref Cx14) = some false)
    (s13_0 : PySem.W.subIn K (.ref Cx13) (.ref Cx0) = some false)
    (s13_1 : PySem.W.subIn K (.ref Cx13) (.ref Cx1) = some false)
    (s13_2 : PySem.W.subIn K (.ref Cx13) (.ref Cx2) = some false)
    (s13_3 : PySem.W.subIn K (.ref Cx13) (.ref Cx3) = some false)
    (s13_4 : PySem.W.subIn K (.ref Cx13) (.ref Cx4) = some false)
    (s13_5 : PySem.W.subIn K (.ref Cx13) (.ref Cx5) = some false)
    (s13_6 : PySem.W.subIn K (.ref Cx13) (.ref Cx6) = some false)
    (s13_7 : PySem.W.subIn K (.ref Cx13) (.ref Cx7) = some false)
    (s13_8 : PySem.W.subIn K (.ref Cx13) (.ref Cx8) = some false)
    (s13_9 : PySem.W.subIn K (.ref Cx13) (.ref Cx9) = some false)
    (s13_10 : PySem.W.subIn K (.ref Cx13) (.ref Cx10) = some false)
    (s13_11 : PySem.W.subIn K (.ref Cx13) (.ref Cx11) = some false)
    (s13_12 : PySem.W.subIn K (.ref Cx13) (.ref Cx12) = some false)
    (s13_13 : PySem.W.subIn K (.ref Cx13) (.ref Cx13) = some true)
    (s13_14 : PySem.W.subIn K (.ref Cx13) (.ref Cx14) = some false)
    (s14_0 : PySem.W.subIn K (.ref Cx14) (.ref Cx0) = some false)
    (s14_1 : PySem.W.subIn K (.ref Cx14) (.ref Cx1) = some false)
    (s14_2 : PySem.W.subIn K (.ref Cx14) (.ref Cx2) = some false)
    (s14_3 : PySem.W.subIn K (.ref Cx14) (.ref Cx3) = some false)
    (s14_4 : PySem.W.subIn K (.ref Cx14) (.ref Cx4) = some false)
    (s14_5 : PySem.W.subIn K (.ref Cx14) (.ref Cx5) = some false)
    (s14_6 : PySem.W.subIn K (.ref Cx14) (.ref Cx6) = some false)
    (s14_7 : PySem.W.subIn K (.ref Cx14) (.ref Cx7) = some false)
    (s14_8 : PySem.W.subIn K (.ref Cx14) (.ref Cx8) = some false)
    (s14_9 : PySem.W.subIn K (.ref Cx14) (.ref Cx9) = some false)
    (s14_10 : PySem.W.subIn K (.ref Cx14) (.ref Cx10) = some false)
    (s14_11 : PySem.W.subIn K (.ref Cx14) (.ref Cx11) = some false)
    (s14_12 : PySem.W.subIn K (.ref Cx14) (.ref Cx12) = some false)
    (s14_13 : PySem.W.subIn K (.ref Cx14) (.ref Cx13) = some false)
    (s14_14 : PySem.W.subIn K (.ref Cx14) (.ref Cx14) = some true)
    (tk25 : K.lookup P25 = none)
    : ∃ (L : Lk) (cs : List (Addr × Addr)), Link P w K mg h L gb cs "law" ∧ L.pg = pg := by
  have D0 := defK_mk l0 e0 k0
  have D1 := defK_mk l1 e1 k1
  have D2 := defK_mk l2 e2 k2
  have D3 := defK_mk l3 e3 k3
  have D4 := defK_mk l4 e4 k4
  have D5 := defK_mk l5 e5 k5
  have D6 := defK_mk l6 e6 k6
  have D7 := defK_mk l7 e7 k7
  have D8 := defK_mk l8 e8 k8
  have D9 := defK_mk l9 e9 k9
  have D10 := defK_mk l10 e10 k10
  have D11 := defK_mk l11 e11 k11
  have D12 := defK_mk l12 e12 k12
  have D13 := defK_mk l13 e13 k13
  have D14 := defK_mk l14 e14 k14
  have D15 := defK_mk l15 e15 k15
  have D16 := defK_mk l16 e16 k16
  have D17 := defK_mk l17 e17 k17
  have D18 := defK_mk l18 e18 k18
  have D19 := defK_mk l19 e19 k19
  have D20 := defK_mk l20 e20 k20
  have D21 := defK_mk l21 e21 k21
  have D22 := defK_mk l22 e22 k22
  have D23 := defK_mk l23 e23 k23
  have D24 := defK_mk l24 e24 k24
  have D25 := defK_mk l25 e25 k25
  have Y25 := code_of T X xr25 a25 D25 xl25 xv25
  refine ⟨{ K := K, mg := mg, pg := pg, fld := fun i => ([(Str.ofString "value"), (Str.ofString "name"), (Str.ofString "limit"), (Str.ofString "answer"), (Str.ofString "many")] : List Str).getD i (Str.ofString ""), clA := fun i => ([Cx0, Cx1, Cx2, Cx3, Cx4, Cx5, Cx6, Cx7, Cx8, Cx9, Cx10, Cx11, Cx12, Cx13, Cx14] : List Addr).getD i 0, T := [(P25, ((Str.ofString "law") ++ ".<locals>.") ++ "<lambda>")], nc := 15, fa := fun i => ([f0, f1, f2, f3, f4, f5, f6, f7, f8, f9, f10, f11, f12, f13, f14, f15, f16, f17, f18, f19, f20, f21, f22, f23, f24, f25, f26] : List Addr).getD i 0, clI := fun i => ([B0] : List Addr).getD i 0 }, [(c25, P25)], ⟨rfl, rfl, ?_, ?_, ?_, ?_, ?_, ?_⟩, rfl⟩
  · intro p hp
    simp only [List.mem_cons, List.not_mem_nil, or_false] at hp
    subst hp
    exact Y25.2
  · intro p hp
    simp only [List.mem_cons, List.not_mem_nil, or_false] at hp
    subst hp
    exact tk25
  · intro p hp
    simp only [List.mem_cons, List.not_mem_nil, or_false] at hp
    subst hp
    exact Y25.1
  · intro p hp
    simp only [List.mem_cons, List.not_mem_nil, or_false] at hp ⊢
    rcases hp with rfl <;> simp
  · refine ⟨?_, ?_, ?_, ?_, ?_, ?_, ?_, ?_, ?_, ?_, ?_, ?_, ?_, ?_, ?_, ?_⟩
    · exact AllC.get (.cons (c_str X T.g rfl g_LETTERS) (.cons (c_int X T.g rfl g_MOST_LETTERS) (.cons (c_str X T.g rfl g_LESS) (.cons (c_str X T.g rfl g_EQUAL) (.cons (c_str X T.g rfl g_GREATER) (.cons (c_int X T.g rfl g_MAX_TABLES) (.cons (c_int X T.g rfl g_MAX_PLACES) (.cons (c_int X T.g rfl g_MAX_CAPS) (.cons (c_int X T.g rfl g_MOST_CAP) (.nil))))))))))
    · exact AllB.get X T.g rfl (.cons z_len (.cons z_abs (.cons z_max (.cons z_min (.cons z_int (.cons z_list (.cons z_tuple (.cons z_repr (.cons z_all (.cons z_isinstance (.cons z_bool (.cons z_str (.cons z_dict (.cons z_range (.cons z_enumerate (.cons z_sorted (.cons z_ValueError (.cons z_IndexError (.cons z_KeyError (.cons z_OverflowError (.cons z_LookupError (.cons z_ArithmeticError (.nil)))))))))))))))))))))))
    · intro i x e
      exact getD_of e
    · intro x c e
      have e := posOf_get e
      match c, e with
      | 0, e => cases e; exact ⟨by show 0 < 15; decide, PySem.W.mg_of X T.g ca0⟩
      | 1, e => cases e; exact ⟨by show 1 < 15; decide, PySem.W.mg_of X T.g ca1⟩
      | 2, e => cases e; exact ⟨by show 2 < 15; decide, PySem.W.mg_of X T.g ca2⟩
      | 3, e => cases e; exact ⟨by show 3 < 15; decide, PySem.W.mg_of X T.g ca3⟩
      | 4, e => cases e; exact ⟨by show 4 < 15; decide, PySem.W.mg_of X T.g ca4⟩
      | 5, e => cases e; exact ⟨by show 5 < 15; decide, PySem.W.mg_of X T.g ca5⟩
      | 6, e => cases e; exact ⟨by show 6 < 15; decide, PySem.W.mg_of X T.g ca6⟩
      | 7, e => cases e; exact ⟨by show 7 < 15; decide, PySem.W.mg_of X T.g ca7⟩
      | 8, e => cases e; exact ⟨by show 8 < 15; decide, PySem.W.mg_of X T.g ca8⟩
      | 9, e => cases e; exact ⟨by show 9 < 15; decide, PySem.W.mg_of X T.g ca9⟩
      | 10, e => cases e; exact ⟨by show 10 < 15; decide, PySem.W.mg_of X T.g ca10⟩
      | 11, e => cases e; exact ⟨by show 11 < 15; decide, PySem.W.mg_of X T.g ca11⟩
      | 12, e => cases e; exact ⟨by show 12 < 15; decide, PySem.W.mg_of X T.g ca12⟩
      | 13, e => cases e; exact ⟨by show 13 < 15; decide, PySem.W.mg_of X T.g ca13⟩
      | 14, e => cases e; exact ⟨by show 14 < 15; decide, PySem.W.mg_of X T.g ca14⟩
      | n + 15, e => cases e
    · intro i c h1 h2
      match i, c, h1, h2 with
      | 0, 0, _, _ => exact exm_of cb0 ci0 cy0 s0_0
      | 0, 1, _, _ => exact exm_of cb1 ci1 cy1 s0_1
      | 0, 2, _, _ => exact exm_of cb2 ci2 cy2 s0_2
      | 0, 3, _, _ => exact exm_of cb3 ci3 cy3 s0_3
      | 0, 4, _, _ => exact exm_of cb4 ci4 cy4 s0_4
      | 0, 5, _, _ => exact exm_of cb5 ci5 cy5 s0_5
      | 0, 6, _, _ => exact exm_of cb6 ci6 cy6 s0_6
      | 0, 7, _, _ => exact exm_of cb7 ci7 cy7 s0_7
      | 0, 8, _, _ => exact exm_of cb8 ci8 cy8 s0_8
      | 0, 9, _, _ => exact exm_of cb9 ci9 cy9 s0_9
      | 0, 10, _, _ => exact exm_of cb10 ci10 cy10 s0_10
      | 0, 11, _, _ => exact exm_of cb11 ci11 cy11 s0_11
      | 0, 12, _, _ => exact exm_of cb12 ci12 cy12 s0_12
      | 0, 13, _, _ => exact exm_of cb13 ci13 cy13 s0_13
      | 0, 14, _, _ => exact exm_of cb14 ci14 cy14 s0_14
      | 1, 0, _, _ => exact exm_of cb0 ci0 cy0 s1_0
      | 1, 1, _, _ => exact exm_of cb1 ci1 cy1 s1_1
      | 1, 2, _, _ => exact exm_of cb2 ci2 cy2 s1_2
      | 1, 3, _, _ => exact exm_of cb3 ci3 cy3 s1_3
      | 1, 4, _, _ => exact exm_of cb4 ci4 cy4 s1_4
      | 1, 5, _, _ => exact exm_of cb5 ci5 cy5 s1_5
      | 1, 6, _, _ => exact exm_of cb6 ci6 cy6 s1_6
      | 1, 7, _, _ => exact exm_of cb7 ci7 cy7 s1_7
      | 1, 8, _, _ => exact exm_of cb8 ci8 cy8 s1_8
      | 1, 9, _, _ => exact exm_of cb9 ci9 cy9 s1_9
      | 1, 10, _, _ => exact exm_of cb10 ci10 cy10 s1_10
      | 1, 11, _, _ => exact exm_of cb11 ci11 cy11 s1_11
      | 1, 12, _, _ => exact exm_of cb12 ci12 cy12 s1_12
      | 1, 13, _, _ => exact exm_of cb13 ci13 cy13 s1_13
      | 1, 14, _, _ => exact exm_of cb14 ci14 cy14 s1_14
      | 2, 0, _, _ => exact exm_of cb0 ci0 cy0 s2_0
      | 2, 1, _, _ => exact exm_of cb1 ci1 cy1 s2_1
      | 2, 2, _, _ => exact exm_of cb2 ci2 cy2 s2_2
      | 2, 3, _, _ => exact exm_of cb3 ci3 cy3 s2_3
      | 2, 4, _, _ => exact exm_of cb4 ci4 cy4 s2_4
      | 2, 5, _, _ => exact exm_of cb5 ci5 cy5 s2_5
      | 2, 6, _, _ => exact exm_of cb6 ci6 cy6 s2_6
      | 2, 7, _, _ => exact exm_of cb7 ci7 cy7 s2_7
      | 2, 8, _, _ => exact exm_of cb8 ci8 cy8 s2_8
      | 2, 9, _, _ => exact exm_of cb9 ci9 cy9 s2_9
      | 2, 10, _, _ => exact exm_of cb10 ci10 cy10 s2_10
      | 2, 11, _, _ => exact exm_of cb11 ci11 cy11 s2_11
      | 2, 12, _, _ => exact exm_of cb12 ci12 cy12 s2_12
      | 2, 13, _, _ => exact exm_of cb13 ci13 cy13 s2_13
      | 2, 14, _, _ => exact exm_of cb14 ci14 cy14 s2_14
      | 3, 0, _, _ => exact exm_of cb0 ci0 cy0 s3_0
      | 3, 1, _, _ => exact exm_of cb1 ci1 cy1 s3_1
      | 3, 2, _, _ => exact exm_of cb2 ci2 cy2 s3_2
      | 3, 3, _, _ => exact exm_of cb3 ci3 cy3 s3_3
      | 3, 4, _, _ => exact exm_of cb4 ci4 cy4 s3_4
      | 3, 5, _, _ => exact exm_of cb5 ci5 cy5 s3_5
      | 3, 6, _, _ => exact exm_of cb6 ci6 cy6 s3_6
      | 3, 7, _, _ => exact exm_of cb7 ci7 cy7 s3_7
      | 3, 8, _, _ => exact exm_of cb8 ci8 cy8 s3_8
      | 3, 9, _, _ => exact exm_of cb9 ci9 cy9 s3_9
      | 3, 10, _, _ => exact exm_of cb10 ci10 cy10 s3_10
      | 3, 11, _, _ => exact exm_of cb11 ci11 cy11 s3_11
      | 3, 12, _, _ => exact exm_of cb12 ci12 cy12 s3_12
      | 3, 13, _, _ => exact exm_of cb13 ci13 cy13 s3_13
      | 3, 14, _, _ => exact exm_of cb14 ci14 cy14 s3_14
      | 4, 0, _, _ => exact exm_of cb0 ci0 cy0 s4_0
      | 4, 1, _, _ => exact exm_of cb1 ci1 cy1 s4_1
      | 4, 2, _, _ => exact exm_of cb2 ci2 cy2 s4_2
      | 4, 3, _, _ => exact exm_of cb3 ci3 cy3 s4_3
      | 4, 4, _, _ => exact exm_of cb4 ci4 cy4 s4_4
      | 4, 5, _, _ => exact exm_of cb5 ci5 cy5 s4_5
      | 4, 6, _, _ => exact exm_of cb6 ci6 cy6 s4_6
      | 4, 7, _, _ => exact exm_of cb7 ci7 cy7 s4_7
      | 4, 8, _, _ => exact exm_of cb8 ci8 cy8 s4_8
      | 4, 9, _, _ => exact exm_of cb9 ci9 cy9 s4_9
      | 4, 10, _, _ => exact exm_of cb10 ci10 cy10 s4_10
      | 4, 11, _, _ => exact exm_of cb11 ci11 cy11 s4_11
      | 4, 12, _, _ => exact exm_of cb12 ci12 cy12 s4_12
      | 4, 13, _, _ => exact exm_of cb13 ci13 cy13 s4_13
      | 4, 14, _, _ => exact exm_of cb14 ci14 cy14 s4_14
      | 5, 0, _, _ => exact exm_of cb0 ci0 cy0 s5_0
      | 5, 1, _, _ => exact exm_of cb1 ci1 cy1 s5_1
      | 5, 2, _, _ => exact exm_of cb2 ci2 cy2 s5_2
      | 5, 3, _, _ => exact exm_of cb3 ci3 cy3 s5_3
      | 5, 4, _, _ => exact exm_of cb4 ci4 cy4 s5_4
      | 5, 5, _, _ => exact exm_of cb5 ci5 cy5 s5_5
      | 5, 6, _, _ => exact exm_of cb6 ci6 cy6 s5_6
      | 5, 7, _, _ => exact exm_of cb7 ci7 cy7 s5_7
      | 5, 8, _, _ => exact exm_of cb8 ci8 cy8 s5_8
      | 5, 9, _, _ => exact exm_of cb9 ci9 cy9 s5_9
      | 5, 10, _, _ => exact exm_of cb10 ci10 cy10 s5_10
      | 5, 11, _, _ => exact exm_of cb11 ci11 cy11 s5_11
      | 5, 12, _, _ => exact exm_of cb12 ci12 cy12 s5_12
      | 5, 13, _, _ => exact exm_of cb13 ci13 cy13 s5_13
      | 5, 14, _, _ => exact exm_of cb14 ci14 cy14 s5_14
      | 6, 0, _, _ => exact exm_of cb0 ci0 cy0 s6_0
      | 6, 1, _, _ => exact exm_of cb1 ci1 cy1 s6_1
      | 6, 2, _, _ => exact exm_of cb2 ci2 cy2 s6_2
      | 6, 3, _, _ => exact exm_of cb3 ci3 cy3 s6_3
      | 6, 4, _, _ => exact exm_of cb4 ci4 cy4 s6_4
      | 6, 5, _, _ => exact exm_of cb5 ci5 cy5 s6_5
      | 6, 6, _, _ => exact exm_of cb6 ci6 cy6 s6_6
      | 6, 7, _, _ => exact exm_of cb7 ci7 cy7 s6_7
      | 6, 8, _, _ => exact exm_of cb8 ci8 cy8 s6_8
      | 6, 9, _, _ => exact exm_of cb9 ci9 cy9 s6_9
      | 6, 10, _, _ => exact exm_of cb10 ci10 cy10 s6_10
      | 6, 11, _, _ => exact exm_of cb11 ci11 cy11 s6_11
      | 6, 12, _, _ => exact exm_of cb12 ci12 cy12 s6_12
      | 6, 13, _, _ => exact exm_of cb13 ci13 cy13 s6_13
      | 6, 14, _, _ => exact exm_of cb14 ci14 cy14 s6_14
      | 7, 0, _, _ => exact exm_of cb0 ci0 cy0 s7_0
      | 7, 1, _, _ => exact exm_of cb1 ci1 cy1 s7_1
      | 7, 2, _, _ => exact exm_of cb2 ci2 cy2 s7_2
      | 7, 3, _, _ => exact exm_of cb3 ci3 cy3 s7_3
      | 7, 4, _, _ => exact exm_of cb4 ci4 cy4 s7_4
      | 7, 5, _, _ => exact exm_of cb5 ci5 cy5 s7_5
      | 7, 6, _, _ => exact exm_of cb6 ci6 cy6 s7_6
      | 7, 7, _, _ => exact exm_of cb7 ci7 cy7 s7_7
      | 7, 8, _, _ => exact exm_of cb8 ci8 cy8 s7_8
      | 7, 9, _, _ => exact exm_of cb9 ci9 cy9 s7_9
      | 7, 10, _, _ => exact exm_of cb10 ci10 cy10 s7_10
      | 7, 11, _, _ => exact exm_of cb11 ci11 cy11 s7_11
      | 7, 12, _, _ => exact exm_of cb12 ci12 cy12 s7_12
      | 7, 13, _, _ => exact exm_of cb13 ci13 cy13 s7_13
      | 7, 14, _, _ => exact exm_of cb14 ci14 cy14 s7_14
      | 8, 0, _, _ => exact exm_of cb0 ci0 cy0 s8_0
      | 8, 1, _, _ => exact exm_of cb1 ci1 cy1 s8_1
      | 8, 2, _, _ => exact exm_of cb2 ci2 cy2 s8_2
      | 8, 3, _, _ => exact exm_of cb3 ci3 cy3 s8_3
      | 8, 4, _, _ => exact exm_of cb4 ci4 cy4 s8_4
      | 8, 5, _, _ => exact exm_of cb5 ci5 cy5 s8_5
      | 8, 6, _, _ => exact exm_of cb6 ci6 cy6 s8_6
      | 8, 7, _, _ => exact exm_of cb7 ci7 cy7 s8_7
      | 8, 8, _, _ => exact exm_of cb8 ci8 cy8 s8_8
      | 8, 9, _, _ => exact exm_of cb9 ci9 cy9 s8_9
      | 8, 10, _, _ => exact exm_of cb10 ci10 cy10 s8_10
      | 8, 11, _, _ => exact exm_of cb11 ci11 cy11 s8_11
      | 8, 12, _, _ => exact exm_of cb12 ci12 cy12 s8_12
      | 8, 13, _, _ => exact exm_of cb13 ci13 cy13 s8_13
      | 8, 14, _, _ => exact exm_of cb14 ci14 cy14 s8_14
      | 9, 0, _, _ => exact exm_of cb0 ci0 cy0 s9_0
      | 9, 1, _, _ => exact exm_of cb1 ci1 cy1 s9_1
      | 9, 2, _, _ => exact exm_of cb2 ci2 cy2 s9_2
      | 9, 3, _, _ => exact exm_of cb3 ci3 cy3 s9_3
      | 9, 4, _, _ => exact exm_of cb4 ci4 cy4 s9_4
      | 9, 5, _, _ => exact exm_of cb5 ci5 cy5 s9_5
      | 9, 6, _, _ => exact exm_of cb6 ci6 cy6 s9_6
      | 9, 7, _, _ => exact exm_of cb7 ci7 cy7 s9_7
      | 9, 8, _, _ => exact exm_of cb8 ci8 cy8 s9_8
      | 9, 9, _, _ => exact exm_of cb9 ci9 cy9 s9_9
      | 9, 10, _, _ => exact exm_of cb10 ci10 cy10 s9_10
      | 9, 11, _, _ => exact exm_of cb11 ci11 cy11 s9_11
      | 9, 12, _, _ => exact exm_of cb12 ci12 cy12 s9_12
      | 9, 13, _, _ => exact exm_of cb13 ci13 cy13 s9_13
      | 9, 14, _, _ => exact exm_of cb14 ci14 cy14 s9_14
      | 10, 0, _, _ => exact exm_of cb0 ci0 cy0 s10_0
      | 10, 1, _, _ => exact exm_of cb1 ci1 cy1 s10_1
      | 10, 2, _, _ => exact exm_of cb2 ci2 cy2 s10_2
      | 10, 3, _, _ => exact exm_of cb3 ci3 cy3 s10_3
      | 10, 4, _, _ => exact exm_of cb4 ci4 cy4 s10_4
      | 10, 5, _, _ => exact exm_of cb5 ci5 cy5 s10_5
      | 10, 6, _, _ => exact exm_of cb6 ci6 cy6 s10_6
      | 10, 7, _, _ => exact exm_of cb7 ci7 cy7 s10_7
      | 10, 8, _, _ => exact exm_of cb8 ci8 cy8 s10_8
      | 10, 9, _, _ => exact exm_of cb9 ci9 cy9 s10_9
      | 10, 10, _, _ => exact exm_of cb10 ci10 cy10 s10_10
      | 10, 11, _, _ => exact exm_of cb11 ci11 cy11 s10_11
      | 10, 12, _, _ => exact exm_of cb12 ci12 cy12 s10_12
      | 10, 13, _, _ => exact exm_of cb13 ci13 cy13 s10_13
      | 10, 14, _, _ => exact exm_of cb14 ci14 cy14 s10_14
      | 11, 0, _, _ => exact exm_of cb0 ci0 cy0 s11_0
      | 11, 1, _, _ => exact exm_of cb1 ci1 cy1 s11_1
      | 11, 2, _, _ => exact exm_of cb2 ci2 cy2 s11_2
      | 11, 3, _, _ => exact exm_of cb3 ci3 cy3 s11_3
      | 11, 4, _, _ => exact exm_of cb4 ci4 cy4 s11_4
      | 11, 5, _, _ => exact exm_of cb5 ci5 cy5 s11_5
      | 11, 6, _, _ => exact exm_of cb6 ci6 cy6 s11_6
      | 11, 7, _, _ => exact exm_of cb7 ci7 cy7 s11_7
      | 11, 8, _, _ => exact exm_of cb8 ci8 cy8 s11_8
      | 11, 9, _, _ => exact exm_of cb9 ci9 cy9 s11_9
      | 11, 10, _, _ => exact exm_of cb10 ci10 cy10 s11_10
      | 11, 11, _, _ => exact exm_of cb11 ci11 cy11 s11_11
      | 11, 12, _, _ => exact exm_of cb12 ci12 cy12 s11_12
      | 11, 13, _, _ => exact exm_of cb13 ci13 cy13 s11_13
      | 11, 14, _, _ => exact exm_of cb14 ci14 cy14 s11_14
      | 12, 0, _, _ => exact exm_of cb0 ci0 cy0 s12_0
      | 12, 1, _, _ => exact exm_of cb1 ci1 cy1 s12_1
      | 12, 2, _, _ => exact exm_of cb2 ci2 cy2 s12_2
      | 12, 3, _, _ => exact exm_of cb3 ci3 cy3 s12_3
      | 12, 4, _, _ => exact exm_of cb4 ci4 cy4 s12_4
      | 12, 5, _, _ => exact exm_of cb5 ci5 cy5 s12_5
      | 12, 6, _, _ => exact exm_of cb6 ci6 cy6 s12_6
      | 12, 7, _, _ => exact exm_of cb7 ci7 cy7 s12_7
      | 12, 8, _, _ => exact exm_of cb8 ci8 cy8 s12_8
      | 12, 9, _, _ => exact exm_of cb9 ci9 cy9 s12_9
      | 12, 10, _, _ => exact exm_of cb10 ci10 cy10 s12_10
      | 12, 11, _, _ => exact exm_of cb11 ci11 cy11 s12_11
      | 12, 12, _, _ => exact exm_of cb12 ci12 cy12 s12_12
      | 12, 13, _, _ => exact exm_of cb13 ci13 cy13 s12_13
      | 12, 14, _, _ => exact exm_of cb14 ci14 cy14 s12_14
      | 13, 0, _, _ => exact exm_of cb0 ci0 cy0 s13_0
      | 13, 1, _, _ => exact exm_of cb1 ci1 cy1 s13_1
      | 13, 2, _, _ => exact exm_of cb2 ci2 cy2 s13_2
      | 13, 3, _, _ => exact exm_of cb3 ci3 cy3 s13_3
      | 13, 4, _, _ => exact exm_of cb4 ci4 cy4 s13_4
      | 13, 5, _, _ => exact exm_of cb5 ci5 cy5 s13_5
      | 13, 6, _, _ => exact exm_of cb6 ci6 cy6 s13_6
      | 13, 7, _, _ => exact exm_of cb7 ci7 cy7 s13_7
      | 13, 8, _, _ => exact exm_of cb8 ci8 cy8 s13_8
      | 13, 9, _, _ => exact exm_of cb9 ci9 cy9 s13_9
      | 13, 10, _, _ => exact exm_of cb10 ci10 cy10 s13_10
      | 13, 11, _, _ => exact exm_of cb11 ci11 cy11 s13_11
      | 13, 12, _, _ => exact exm_of cb12 ci12 cy12 s13_12
      | 13, 13, _, _ => exact exm_of cb13 ci13 cy13 s13_13
      | 13, 14, _, _ => exact exm_of cb14 ci14 cy14 s13_14
      | 14, 0, _, _ => exact exm_of cb0 ci0 cy0 s14_0
      | 14, 1, _, _ => exact exm_of cb1 ci1 cy1 s14_1
      | 14, 2, _, _ => exact exm_of cb2 ci2 cy2 s14_2
      | 14, 3, _, _ => exact exm_of cb3 ci3 cy3 s14_3
      | 14, 4, _, _ => exact exm_of cb4 ci4 cy4 s14_4
      | 14, 5, _, _ => exact exm_of cb5 ci5 cy5 s14_5
      | 14, 6, _, _ => exact exm_of cb6 ci6 cy6 s14_6
      | 14, 7, _, _ => exact exm_of cb7 ci7 cy7 s14_7
      | 14, 8, _, _ => exact exm_of cb8 ci8 cy8 s14_8
      | 14, 9, _, _ => exact exm_of cb9 ci9 cy9 s14_9
      | 14, 10, _, _ => exact exm_of cb10 ci10 cy10 s14_10
      | 14, 11, _, _ => exact exm_of cb11 ci11 cy11 s14_11
      | 14, 12, _, _ => exact exm_of cb12 ci12 cy12 s14_12
      | 14, 13, _, _ => exact exm_of cb13 ci13 cy13 s14_13
      | 14, 14, _, _ => exact exm_of cb14 ci14 cy14 s14_14
      | 0, n + 15, _, h => exact absurd h (by show ¬ (n + 15 < 15); omega)
      | 1, n + 15, _, h => exact absurd h (by show ¬ (n + 15 < 15); omega)
      | 2, n + 15, _, h => exact absurd h (by show ¬ (n + 15 < 15); omega)
      | 3, n + 15, _, h => exact absurd h (by show ¬ (n + 15 < 15); omega)
      | 4, n + 15, _, h => exact absurd h (by show ¬ (n + 15 < 15); omega)
      | 5, n + 15, _, h => exact absurd h (by show ¬ (n + 15 < 15); omega)
      | 6, n + 15, _, h => exact absurd h (by show ¬ (n + 15 < 15); omega)
      | 7, n + 15, _, h => exact absurd h (by show ¬ (n + 15 < 15); omega)
      | 8, n + 15, _, h => exact absurd h (by show ¬ (n + 15 < 15); omega)
      | 9, n + 15, _, h => exact absurd h (by show ¬ (n + 15 < 15); omega)
      | 10, n + 15, _, h => exact absurd h (by show ¬ (n + 15 < 15); omega)
      | 11, n + 15, _, h => exact absurd h (by show ¬ (n + 15 < 15); omega)
      | 12, n + 15, _, h => exact absurd h (by show ¬ (n + 15 < 15); omega)
      | 13, n + 15, _, h => exact absurd h (by show ¬ (n + 15 < 15); omega)
      | 14, n + 15, _, h => exact absurd h (by show ¬ (n + 15 < 15); omega)
      | n + 15, _, h, _ => exact absurd h (by show ¬ (n + 15 < 15); omega)
    · intro c h1 e
      match c, h1, e with
      | 0, _, _ => exact ⟨_, _, _, _, PySem.F.excBase_ValueError, cx0, ck0, cb0, cy0⟩
      | 1, _, _ => exact ⟨_, _, _, _, PySem.F.excBase_ValueError, cx1, ck1, cb1, cy1⟩
      | 2, _, _ => exact ⟨_, _, _, _, PySem.F.excBase_ValueError, cx2, ck2, cb2, cy2⟩
      | 3, _, _ => exact ⟨_, _, _, _, PySem.F.excBase_ValueError, cx3, ck3, cb3, cy3⟩
      | 4, _, _ => exact ⟨_, _, _, _, PySem.F.excBase_ValueError, cx4, ck4, cb4, cy4⟩
      | 5, _, _ => exact ⟨_, _, _, _, PySem.F.excBase_ValueError, cx5, ck5, cb5, cy5⟩
      | 6, _, _ => exact ⟨_, _, _, _, PySem.F.excBase_ValueError, cx6, ck6, cb6, cy6⟩
      | 7, _, _ => exact ⟨_, _, _, _, PySem.F.excBase_ValueError, cx7, ck7, cb7, cy7⟩
      | 8, _, _ => exact ⟨_, _, _, _, PySem.F.excBase_ValueError, cx8, ck8, cb8, cy8⟩
      | 9, _, _ => exact ⟨_, _, _, _, PySem.F.excBase_ValueError, cx9, ck9, cb9, cy9⟩
      | 10, _, e => cases e
      | 11, _, e => cases e
      | 12, _, e => cases e
      | 13, _, e => cases e
      | 14, _, e => cases e
      | n + 15, h, _ => exact absurd h (by show ¬ (n + 15 < 15); omega)
    · intro c f h1 e
      match c, h1, e with
      | 0, _, e => cases e
      | 1, _, e => cases e
      | 2, _, e => cases e
      | 3, _, e => cases e
      | 4, _, e => cases e
      | 5, _, e => cases e
      | 6, _, e => cases e
      | 7, _, e => cases e
      | 8, _, e => cases e
      | 9, _, e => cases e
      | 10, _, e =>
        cases e
        exact ⟨iniD_mk (iniC_mk (.of PySem.F.excBase_IndexError) PySem.F.store_IndexError cl10 ch10 ct_10 cs10 cb10 cy10 ck10 cn10 cf10) cli10 cci10 rfl (fun _ _ _ _ _ _ us hl => match us, hl with | [_, _], _ => rfl) (by decide +kernel) (by decide +kernel) (by decide +kernel) (by decide +kernel) (by decide +kernel), ⟨cg10, cgg10, cb10, chd10⟩, cno10⟩
      | 11, _, e =>
        cases e
        exact ⟨iniD_mk (iniC_mk newKey storeKey cl11 ch11 ct_11 cs11 cb11 cy11 ck11 cn11 cf11) cli11 cci11 rfl (fun _ _ _ _ _ _ us hl => match us, hl with | [_, _], _ => rfl) (by decide +kernel) (by decide +kernel) (by decide +kernel) (by decide +kernel) (by decide +kernel), ⟨cg11, cgg11, cb11, chd11⟩, cno11⟩
      | 12, _, e =>
        cases e
        exact ⟨iniD_mk (iniC_mk (.of PySem.F.excBase_OverflowError) PySem.F.store_OverflowError cl12 ch12 ct_12 cs12 cb12 cy12 ck12 cn12 cf12) cli12 cci12 rfl (fun _ _ _ _ _ _ us hl => match us, hl with | [_, _], _ => rfl) (by decide +kernel) (by decide +kernel) (by decide +kernel) (by decide +kernel) (by decide +kernel), ⟨cg12, cgg12, cb12, chd12⟩, cno12⟩
      | 13, _, e =>
        cases e
        exact ⟨iniD_mk (iniC_mk (.of PySem.F.excBase_LookupError) PySem.F.store_LookupError cl13 ch13 ct_13 cs13 cb13 cy13 ck13 cn13 cf13) cli13 cci13 rfl (fun _ _ _ _ _ _ us hl => match us, hl with | [_, _], _ => rfl) (by decide +kernel) (by decide +kernel) (by decide +kernel) (by decide +kernel) (by decide +kernel), ⟨cg13, cgg13, cb13, chd13⟩, cno13⟩
      | 14, _, e =>
        cases e
        exact ⟨iniD_mk (iniC_mk (.of PySem.F.excBase_ArithmeticError) PySem.F.store_ArithmeticError cl14 ch14 ct_14 cs14 cb14 cy14 ck14 cn14 cf14) cli14 cci14 rfl (fun _ _ _ _ _ _ us hl => match us, hl with | [_, _], _ => rfl) (by decide +kernel) (by decide +kernel) (by decide +kernel) (by decide +kernel) (by decide +kernel), ⟨cg14, cgg14, cb14, chd14⟩, cno14⟩
      | n + 15, h, _ => exact absurd h (by show ¬ (n + 15 < 15); omega)
    · intro x i e
      exact AllF.at X T.g rfl rfl (.cons a0 k0 rfl rfl (.cons a1 k1 rfl rfl (.cons a2 k2 rfl rfl (.cons a3 k3 rfl rfl (.cons a4 k4 rfl rfl (.cons a5 k5 rfl rfl (.cons a6 k6 rfl rfl (.cons a7 k7 rfl rfl (.cons a8 k8 rfl rfl (.cons a9 k9 rfl rfl (.cons a10 k10 rfl rfl (.cons a11 k11 rfl rfl (.cons a12 k12 rfl rfl (.cons a13 k13 rfl rfl (.cons a14 k14 rfl rfl (.cons a15 k15 rfl rfl (.cons a16 k16 rfl rfl (.cons a17 k17 rfl rfl (.cons a18 k18 rfl rfl (.cons a19 k19 rfl rfl (.cons a20 k20 rfl rfl (.cons a21 k21 rfl rfl (.cons a22 k22 rfl rfl (.cons a23 k23 rfl rfl (.cons a24 k24 rfl rfl (.cons a25 k25 rfl rfl (.nil))))))))))))))))))))))))))) (posOf_get e)
    · intro c h
      match c, h with
      | 0, _ => exact ⟨bg0, bh0, bo0, bs0⟩
    · intro c f h hf
      match c, h with
      | 0, _ => exact AllN.get (.cons bf0_0 (.cons bf0_1 (.cons bf0_2 (.cons bf0_3 (.cons bf0_4 (.cons bf0_5 (.cons bf0_6 (.cons bf0_7 (.nil))))))))) f hf
    · intro c m i h hm e
      match c, h with
      | 0, _ => exact AllM.get (.nil) m i e
    · intro x c e
      have e := posOf_get e
      match c, e with
      | 0, e => cases e; exact ⟨rfl, PySem.W.mg_of X T.g ba0, 26, rfl, ⟨bm0, a26, af26, bk0⟩, ⟨_, rfl⟩⟩
      | n + 1, e => cases e
    · intro _ x c e
      have e := posOf_get e
      match c, e with
      | 0, e => cases e; exact ca0
      | 1, e => cases e; exact ca1
      | 2, e => cases e; exact ca2
      | 3, e => cases e; exact ca3
      | 4, e => cases e; exact ca4
      | 5, e => cases e; exact ca5
      | 6, e => cases e; exact ca6
      | 7, e => cases e; exact ca7
      | 8, e => cases e; exact ca8
      | 9, e => cases e; exact ca9
      | 10, e => cases e; exact ca10
      | 11, e => cases e; exact ca11
      | 12, e => cases e; exact ca12
      | 13, e => cases e; exact ca13
      | 14, e => cases e; exact ca14
      | n + 15, e => cases e
    · intro c t b h _
      match c, h with
      | 0, _ => exact ca0
      | 1, _ => exact ca1
      | 2, _ => exact ca2
      | 3, _ => exact ca3
      | 4, _ => exact ca4
      | 5, _ => exact ca5
      | 6, _ => exact ca6
      | 7, _ => exact ca7
      | 8, _ => exact ca8
      | 9, _ => exact ca9
      | 10, _ => exact ca10
      | 11, _ => exact ca11
      | 12, _ => exact ca12
      | 13, _ => exact ca13
      | 14, _ => exact ca14
      | n + 15, h => exact absurd h (by show ¬ (n + 15 < 15); omega)
    · intro c t b h
      have r0 : RowX K mg Cx0 _ := (.own (PySem.W.mg_of X T.g ca0) (kit_own ci0 cy0 s0_0 s0_0) (.own (PySem.W.mg_of X T.g ca1) (kit_own ci1 cy1 s0_0 s0_1) (.own (PySem.W.mg_of X T.g ca2) (kit_own ci2 cy2 s0_0 s0_2) (.own (PySem.W.mg_of X T.g ca3) (kit_own ci3 cy3 s0_0 s0_3) (.own (PySem.W.mg_of X T.g ca4) (kit_own ci4 cy4 s0_0 s0_4) (.own (PySem.W.mg_of X T.g ca5) (kit_own ci5 cy5 s0_0 s0_5) (.own (PySem.W.mg_of X T.g ca6) (kit_own ci6 cy6 s0_0 s0_6) (.own (PySem.W.mg_of X T.g ca7) (kit_own ci7 cy7 s0_0 s0_7) (.own (PySem.W.mg_of X T.g ca8) (kit_own ci8 cy8 s0_0 s0_8) (.own (PySem.W.mg_of X T.g ca9) (kit_own ci9 cy9 s0_0 s0_9) (.own (PySem.W.mg_of X T.g ca10) (kit_own ci10 cy10 s0_0 s0_10) (.own (PySem.W.mg_of X T.g ca11) (kit_own ci11 cy11 s0_0 s0_11) (.own (PySem.W.mg_of X T.g ca12) (kit_own ci12 cy12 s0_0 s0_12) (.own (PySem.W.mg_of X T.g ca13) (kit_own ci13 cy13 s0_0 s0_13) (.own (PySem.W.mg_of X T.g ca14) (kit_own ci14 cy14 s0_0 s0_14) (.bt (PySem.W.mg_none_of X T.g z_ValueError) xb_ValueError (kit_bt (by decide +kernel) sb0_ValueError) (.bt (PySem.W.mg_none_of X T.g z_IndexError) xb_IndexError (kit_bt (by decide +kernel) sb0_IndexError) (.bt (PySem.W.mg_none_of X T.g z_KeyError) xb_KeyError (kit_bt (by decide +kernel) sb0_KeyError) (.bt (PySem.W.mg_none_of X T.g z_OverflowError) xb_OverflowError (kit_bt (by decide +kernel) sb0_OverflowError) (.bt (PySem.W.mg_none_of X T.g z_LookupError) xb_LookupError (kit_bt (by decide +kernel) sb0_LookupError) (.bt (PySem.W.mg_none_of X T.g z_ArithmeticError) xb_ArithmeticError (kit_bt (by decide +kernel) sb0_ArithmeticError) .nil)))))))))))))))))))))
      have r1 : RowX K mg Cx1 _ := (.own (PySem.W.mg_of X T.g ca0) (kit_own ci0 cy0 s1_1 s1_0) (.own (PySem.W.mg_of X T.g ca1) (kit_own ci1 cy1 s1_1 s1_1) (.own (PySem.W.mg_of X T.g ca2) (kit_own ci2 cy2 s1_1 s1_2) (.own (PySem.W.mg_of X T.g ca3) (kit_own ci3 cy3 s1_1 s1_3) (.own (PySem.W.mg_of X T.g ca4) (kit_own ci4 cy4 s1_1 s1_4) (.own (PySem.W.mg_of X T.g ca5) (kit_own ci5 cy5 s1_1 s1_5) (.own (PySem.W.mg_of X T.g ca6) (kit_own ci6 cy6 s1_1 s1_6) (.own (PySem.W.mg_of X T.g ca7) (kit_own ci7 cy7 s1_1 s1_7) (.own (PySem.W.mg_of X T.g ca8) (kit_own ci8 cy8 s1_1 s1_8) (.own (PySem.W.mg_of X T.g ca9) (kit_own ci9 cy9 s1_1 s1_9) (.own (PySem.W.mg_of X T.g ca10) (kit_own ci10 cy10 s1_1 s1_10) (.own (PySem.W.mg_of X T.g ca11) (kit_own ci11 cy11 s1_1 s1_11) (.own (PySem.W.mg_of X T.g ca12) (kit_own ci12 cy12 s1_1 s1_12) (.own (PySem.W.mg_of X T.g ca13) (kit_own ci13 cy13 s1_1 s1_13) (.own (PySem.W.mg_of X T.g ca14) (kit_own ci14 cy14 s1_1 s1_14) (.bt (PySem.W.mg_none_of X T.g z_ValueError) xb_ValueError (kit_bt (by decide +kernel) sb1_ValueError) (.bt (PySem.W.mg_none_of X T.g z_IndexError) xb_IndexError (kit_bt (by decide +kernel) sb1_IndexError) (.bt (PySem.W.mg_none_of X T.g z_KeyError) xb_KeyError (kit_bt (by decide +kernel) sb1_KeyError) (.bt (PySem.W.mg_none_of X T.g z_OverflowError) xb_OverflowError (kit_bt (by decide +kernel) sb1_OverflowError) (.bt (PySem.W.mg_none_of X T.g z_LookupError) xb_LookupError (kit_bt (by decide +kernel) sb1_LookupError) (.bt (PySem.W.mg_none_of X T.g z_ArithmeticError) xb_ArithmeticError (kit_bt (by decide +kernel) sb1_ArithmeticError) .nil)))))))))))))))))))))
      have r2 : RowX K mg Cx2 _ := (.own (PySem.W.mg_of X T.g ca0) (kit_own ci0 cy0 s2_2 s2_0) (.own (PySem.W.mg_of X T.g ca1) (kit_own ci1 cy1 s2_2 s2_1) (.own (PySem.W.mg_of X T.g ca2) (kit_own ci2 cy2 s2_2 s2_2) (.own (PySem.W.mg_of X T.g ca3) (kit_own ci3 cy3 s2_2 s2_3) (.own (PySem.W.mg_of X T.g ca4) (kit_own ci4 cy4 s2_2 s2_4) (.own (PySem.W.mg_of X T.g ca5) (kit_own ci5 cy5 s2_2 s2_5) (.own (PySem.W.mg_of X T.g ca6) (kit_own ci6 cy6 s2_2 s2_6) (.own (PySem.W.mg_of X T.g ca7) (kit_own ci7 cy7 s2_2 s2_7) (.own (PySem.W.mg_of X T.g ca8) (kit_own ci8 cy8 s2_2 s2_8) (.own (PySem.W.mg_of X T.g ca9) (kit_own ci9 cy9 s2_2 s2_9) (.own (PySem.W.mg_of X T.g ca10) (kit_own ci10 cy10 s2_2 s2_10) (.own (PySem.W.mg_of X T.g ca11) (kit_own ci11 cy11 s2_2 s2_11) (.own (PySem.W.mg_of X T.g ca12) (kit_own ci12 cy12 s2_2 s2_12) (.own (PySem.W.mg_of X T.g ca13) (kit_own ci13 cy13 s2_2 s2_13) (.own (PySem.W.mg_of X T.g ca14) (kit_own ci14 cy14 s2_2 s2_14) (.bt (PySem.W.mg_none_of X T.g z_ValueError) xb_ValueError (kit_bt (by decide +kernel) sb2_ValueError) (.bt (PySem.W.mg_none_of X T.g z_IndexError) xb_IndexError (kit_bt (by decide +kernel) sb2_IndexError) (.bt (PySem.W.mg_none_of X T.g z_KeyError) xb_KeyError (kit_bt (by decide +kernel) sb2_KeyError) (.bt (PySem.W.mg_none_of X T.g z_OverflowError) xb_OverflowError (kit_bt (by decide +kernel) sb2_OverflowError) (.bt (PySem.W.mg_none_of X T.g z_LookupError) xb_LookupError (kit_bt (by decide +kernel) sb2_LookupError) (.bt (PySem.W.mg_none_of X T.g z_ArithmeticError) xb_ArithmeticError (kit_bt (by decide +kernel) sb2_ArithmeticError) .nil)))))))))))))))))))))
      have r3 : RowX K mg Cx3 _ := (.own (PySem.W.mg_of X T.g ca0) (kit_own ci0 cy0 s3_3 s3_0) (.own (PySem.W.mg_of X T.g ca1) (kit_own ci1 cy1 s3_3 s3_1) (.own (PySem.W.mg_of X T.g ca2) (kit_own ci2 cy2 s3_3 s3_2) (.own (PySem.W.mg_of X T.g ca3) (kit_own ci3 cy3 s3_3 s3_3) (.own (PySem.W.mg_of X T.g ca4) (kit_own ci4 cy4 s3_3 s3_4) (.own (PySem.W.mg_of X T.g ca5) (kit_own ci5 cy5 s3_3 s3_5) (.own (PySem.W.mg_of X T.g ca6) (kit_own ci6 cy6 s3_3 s3_6) (.own (PySem.W.mg_of X T.g ca7) (kit_own ci7 cy7 s3_3 s3_7) (.own (PySem.W.mg_of X T.g ca8) (kit_own ci8 cy8 s3_3 s3_8) (.own (PySem.W.mg_of X T.g ca9) (kit_own ci9 cy9 s3_3 s3_9) (.own (PySem.W.mg_of X T.g ca10) (kit_own ci10 cy10 s3_3 s3_10) (.own (PySem.W.mg_of X T.g ca11) (kit_own ci11 cy11 s3_3 s3_11) (.own (PySem.W.mg_of X T.g ca12) (kit_own ci12 cy12 s3_3 s3_12) (.own (PySem.W.mg_of X T.g ca13) (kit_own ci13 cy13 s3_3 s3_13) (.own (PySem.W.mg_of X T.g ca14) (kit_own ci14 cy14 s3_3 s3_14) (.bt (PySem.W.mg_none_of X T.g z_ValueError) xb_ValueError (kit_bt (by decide +kernel) sb3_ValueError) (.bt (PySem.W.mg_none_of X T.g z_IndexError) xb_IndexError (kit_bt (by decide +kernel) sb3_IndexError) (.bt (PySem.W.mg_none_of X T.g z_KeyError) xb_KeyError (kit_bt (by decide +kernel) sb3_KeyError) (.bt (PySem.W.mg_none_of X T.g z_OverflowError) xb_OverflowError (kit_bt (by decide +kernel) sb3_OverflowError) (.bt (PySem.W.mg_none_of X T.g z_LookupError) xb_LookupError (kit_bt (by decide +kernel) sb3_LookupError) (.bt (PySem.W.mg_none_of X T.g z_ArithmeticError) xb_ArithmeticError (kit_bt (by decide +kernel) sb3_ArithmeticError) .nil)))))))))))))))))))))
      have r4 : RowX K mg Cx4 _ := (.own (PySem.W.mg_of X T.g ca0) (kit_own ci0 cy0 s4_4 s4_0) (.own (PySem.W.mg_of X T.g ca1) (kit_own ci1 cy1 s4_4 s4_1) (.own (PySem.W.mg_of X T.g ca2) (kit_own ci2 cy2 s4_4 s4_2) (.own (PySem.W.mg_of X T.g ca3) (kit_own ci3 cy3 s4_4 s4_3) (.own (PySem.W.mg_of X T.g ca4) (kit_own ci4 cy4 s4_4 s4_4) (.own (PySem.W.mg_of X T.g ca5) (kit_own ci5 cy5 s4_4 s4_5) (.own (PySem.W.mg_of X T.g ca6) (kit_own ci6 cy6 s4_4 s4_6) (.own (PySem.W.mg_of X T.g ca7) (kit_own ci7 cy7 s4_4 s4_7) (.own (PySem.W.mg_of X T.g ca8) (kit_own ci8 cy8 s4_4 s4_8) (.own (PySem.W.mg_of X T.g ca9) (kit_own ci9 cy9 s4_4 s4_9) (.own (PySem.W.mg_of X T.g ca10) (kit_own ci10 cy10 s4_4 s4_10) (.own (PySem.W.mg_of X T.g ca11) (kit_own ci11 cy11 s4_4 s4_11) (.own (PySem.W.mg_of X T.g ca12) (kit_own ci12 cy12 s4_4 s4_12) (.own (PySem.W.mg_of X T.g ca13) (kit_own ci13 cy13 s4_4 s4_13) (.own (PySem.W.mg_of X T.g ca14) (kit_own ci14 cy14 s4_4 s4_14) (.bt (PySem.W.mg_none_of X T.g z_ValueError) xb_ValueError (kit_bt (by decide +kernel) sb4_ValueError) (.bt (PySem.W.mg_none_of X T.g z_IndexError) xb_IndexError (kit_bt (by decide +kernel) sb4_IndexError) (.bt (PySem.W.mg_none_of X T.g z_KeyError) xb_KeyError (kit_bt (by decide +kernel) sb4_KeyError) (.bt (PySem.W.mg_none_of X T.g z_OverflowError) xb_OverflowError (kit_bt (by decide +kernel) sb4_OverflowError) (.bt (PySem.W.mg_none_of X T.g z_LookupError) xb_LookupError (kit_bt (by decide +kernel) sb4_LookupError) (.bt (PySem.W.mg_none_of X T.g z_ArithmeticError) xb_ArithmeticError (kit_bt (by decide +kernel) sb4_ArithmeticError) .nil)))))))))))))))))))))
      have r5 : RowX K mg Cx5 _ := (.own (PySem.W.mg_of X T.g ca0) (kit_own ci0 cy0 s5_5 s5_0) (.own (PySem.W.mg_of X T.g ca1) (kit_own ci1 cy1 s5_5 s5_1) (.own (PySem.W.mg_of X T.g ca2) (kit_own ci2 cy2 s5_5 s5_2) (.own (PySem.W.mg_of X T.g ca3) (kit_own ci3 cy3 s5_5 s5_3) (.own (PySem.W.mg_of X T.g ca4) (kit_own ci4 cy4 s5_5 s5_4) (.own (PySem.W.mg_of X T.g ca5) (kit_own ci5 cy5 s5_5 s5_5) (.own (PySem.W.mg_of X T.g ca6) (kit_own ci6 cy6 s5_5 s5_6) (.own (PySem.W.mg_of X T.g ca7) (kit_own ci7 cy7 s5_5 s5_7) (.own (PySem.W.mg_of X T.g ca8) (kit_own ci8 cy8 s5_5 s5_8) (.own (PySem.W.mg_of X T.g ca9) (kit_own ci9 cy9 s5_5 s5_9) (.own (PySem.W.mg_of X T.g ca10) (kit_own ci10 cy10 s5_5 s5_10) (.own (PySem.W.mg_of X T.g ca11) (kit_own ci11 cy11 s5_5 s5_11) (.own (PySem.W.mg_of X T.g ca12) (kit_own ci12 cy12 s5_5 s5_12) (.own (PySem.W.mg_of X T.g ca13) (kit_own ci13 cy13 s5_5 s5_13) (.own (PySem.W.mg_of X T.g ca14) (kit_own ci14 cy14 s5_5 s5_14) (.bt (PySem.W.mg_none_of X T.g z_ValueError) xb_ValueError (kit_bt (by decide +kernel) sb5_ValueError) (.bt (PySem.W.mg_none_of X T.g z_IndexError) xb_IndexError (kit_bt (by decide +kernel) sb5_IndexError) (.bt (PySem.W.mg_none_of X T.g z_KeyError) xb_KeyError (kit_bt (by decide +kernel) sb5_KeyError) (.bt (PySem.W.mg_none_of X T.g z_OverflowError) xb_OverflowError (kit_bt (by decide +kernel) sb5_OverflowError) (.bt (PySem.W.mg_none_of X T.g z_LookupError) xb_LookupError (kit_bt (by decide +kernel) sb5_LookupError) (.bt (PySem.W.mg_none_of X T.g z_ArithmeticError) xb_ArithmeticError (kit_bt (by decide +kernel) sb5_ArithmeticError) .nil)))))))))))))))))))))
      have r6 : RowX K mg Cx6 _ := (.own (PySem.W.mg_of X T.g ca0) (kit_own ci0 cy0 s6_6 s6_0) (.own (PySem.W.mg_of X T.g ca1) (kit_own ci1 cy1 s6_6 s6_1) (.own (PySem.W.mg_of X T.g ca2) (kit_own ci2 cy2 s6_6 s6_2) (.own (PySem.W.mg_of X T.g ca3) (kit_own ci3 cy3 s6_6 s6_3) (.own (PySem.W.mg_of X T.g ca4) (kit_own ci4 cy4 s6_6 s6_4) (.own (PySem.W.mg_of X T.g ca5) (kit_own ci5 cy5 s6_6 s6_5) (.own (PySem.W.mg_of X T.g ca6) (kit_own ci6 cy6 s6_6 s6_6) (.own (PySem.W.mg_of X T.g ca7) (kit_own ci7 cy7 s6_6 s6_7) (.own (PySem.W.mg_of X T.g ca8) (kit_own ci8 cy8 s6_6 s6_8) (.own (PySem.W.mg_of X T.g ca9) (kit_own ci9 cy9 s6_6 s6_9) (.own (PySem.W.mg_of X T.g ca10) (kit_own ci10 cy10 s6_6 s6_10) (.own (PySem.W.mg_of X T.g ca11) (kit_own ci11 cy11 s6_6 s6_11) (.own (PySem.W.mg_of X T.g ca12) (kit_own ci12 cy12 s6_6 s6_12) (.own (PySem.W.mg_of X T.g ca13) (kit_own ci13 cy13 s6_6 s6_13) (.own (PySem.W.mg_of X T.g ca14) (kit_own ci14 cy14 s6_6 s6_14) (.bt (PySem.W.mg_none_of X T.g z_ValueError) xb_ValueError (kit_bt (by decide +kernel) sb6_ValueError) (.bt (PySem.W.mg_none_of X T.g z_IndexError) xb_IndexError (kit_bt (by decide +kernel) sb6_IndexError) (.bt (PySem.W.mg_none_of X T.g z_KeyError) xb_KeyError (kit_bt (by decide +kernel) sb6_KeyError) (.bt (PySem.W.mg_none_of X T.g z_OverflowError) xb_OverflowError (kit_bt (by decide +kernel) sb6_OverflowError) (.bt (PySem.W.mg_none_of X T.g z_LookupError) xb_LookupError (kit_bt (by decide +kernel) sb6_LookupError) (.bt (PySem.W.mg_none_of X T.g z_ArithmeticError) xb_ArithmeticError (kit_bt (by decide +kernel) sb6_ArithmeticError) .nil)))))))))))))))))))))
      have r7 : RowX K mg Cx7 _ := (.own (PySem.W.mg_of X T.g ca0) (kit_own ci0 cy0 s7_7 s7_0) (.own (PySem.W.mg_of X T.g ca1) (kit_own ci1 cy1 s7_7 s7_1) (.own (PySem.W.mg_of X T.g ca2) (kit_own ci2 cy2 s7_7 s7_2) (.own (PySem.W.mg_of X T.g ca3) (kit_own ci3 cy3 s7_7 s7_3) (.own (PySem.W.mg_of X T.g ca4) (kit_own ci4 cy4 s7_7 s7_4) (.own (PySem.W.mg_of X T.g ca5) (kit_own ci5 cy5 s7_7 s7_5) (.own (PySem.W.mg_of X T.g ca6) (kit_own ci6 cy6 s7_7 s7_6) (.own (PySem.W.mg_of X T.g ca7) (kit_own ci7 cy7 s7_7 s7_7) (.own (PySem.W.mg_of X T.g ca8) (kit_own ci8 cy8 s7_7 s7_8) (.own (PySem.W.mg_of X T.g ca9) (kit_own ci9 cy9 s7_7 s7_9) (.own (PySem.W.mg_of X T.g ca10) (kit_own ci10 cy10 s7_7 s7_10) (.own (PySem.W.mg_of X T.g ca11) (kit_own ci11 cy11 s7_7 s7_11) (.own (PySem.W.mg_of X T.g ca12) (kit_own ci12 cy12 s7_7 s7_12) (.own (PySem.W.mg_of X T.g ca13) (kit_own ci13 cy13 s7_7 s7_13) (.own (PySem.W.mg_of X T.g ca14) (kit_own ci14 cy14 s7_7 s7_14) (.bt (PySem.W.mg_none_of X T.g z_ValueError) xb_ValueError (kit_bt (by decide +kernel) sb7_ValueError) (.bt (PySem.W.mg_none_of X T.g z_IndexError) xb_IndexError (kit_bt (by decide +kernel) sb7_IndexError) (.bt (PySem.W.mg_none_of X T.g z_KeyError) xb_KeyError (kit_bt (by decide +kernel) sb7_KeyError) (.bt (PySem.W.mg_none_of X T.g z_OverflowError) xb_OverflowError (kit_bt (by decide +kernel) sb7_OverflowError) (.bt (PySem.W.mg_none_of X T.g z_LookupError) xb_LookupError (kit_bt (by decide +kernel) sb7_LookupError) (.bt (PySem.W.mg_none_of X T.g z_ArithmeticError) xb_ArithmeticError (kit_bt (by decide +kernel) sb7_ArithmeticError) .nil)))))))))))))))))))))
      have r8 : RowX K mg Cx8 _ := (.own (PySem.W.mg_of X T.g ca0) (kit_own ci0 cy0 s8_8 s8_0) (.own (PySem.W.mg_of X T.g ca1) (kit_own ci1 cy1 s8_8 s8_1) (.own (PySem.W.mg_of X T.g ca2) (kit_own ci2 cy2 s8_8 s8_2) (.own (PySem.W.mg_of X T.g ca3) (kit_own ci3 cy3 s8_8 s8_3) (.own (PySem.W.mg_of X T.g ca4) (kit_own ci4 cy4 s8_8 s8_4) (.own (PySem.W.mg_of X T.g ca5) (kit_own ci5 cy5 s8_8 s8_5) (.own (PySem.W.mg_of X T.g ca6) (kit_own ci6 cy6 s8_8 s8_6) (.own (PySem.W.mg_of X T.g ca7) (kit_own ci7 cy7 s8_8 s8_7) (.own (PySem.W.mg_of X T.g ca8) (kit_own ci8 cy8 s8_8 s8_8) (.own (PySem.W.mg_of X T.g ca9) (kit_own ci9 cy9 s8_8 s8_9) (.own (PySem.W.mg_of X T.g ca10) (kit_own ci10 cy10 s8_8 s8_10) (.own (PySem.W.mg_of X T.g ca11) (kit_own ci11 cy11 s8_8 s8_11) (.own (PySem.W.mg_of X T.g ca12) (kit_own ci12 cy12 s8_8 s8_12) (.own (PySem.W.mg_of X T.g ca13) (kit_own ci13 cy13 s8_8 s8_13) (.own (PySem.W.mg_of X T.g ca14) (kit_own ci14 cy14 s8_8 s8_14) (.bt (PySem.W.mg_none_of X T.g z_ValueError) xb_ValueError (kit_bt (by decide +kernel) sb8_ValueError) (.bt (PySem.W.mg_none_of X T.g z_IndexError) xb_IndexError (kit_bt (by decide +kernel) sb8_IndexError) (.bt (PySem.W.mg_none_of X T.g z_KeyError) xb_KeyError (kit_bt (by decide +kernel) sb8_KeyError) (.bt (PySem.W.mg_none_of X T.g z_OverflowError) xb_OverflowError (kit_bt (by decide +kernel) sb8_OverflowError) (.bt (PySem.W.mg_none_of X T.g z_LookupError) xb_LookupError (kit_bt (by decide +kernel) sb8_LookupError) (.bt (PySem.W.mg_none_of X T.g z_ArithmeticError) xb_ArithmeticError (kit_bt (by decide +kernel) sb8_ArithmeticError) .nil)))))))))))))))))))))
      have r9 : RowX K mg Cx9 _ := (.own (PySem.W.mg_of X T.g ca0) (kit_own ci0 cy0 s9_9 s9_0) (.own (PySem.W.mg_of X T.g ca1) (kit_own ci1 cy1 s9_9 s9_1) (.own (PySem.W.mg_of X T.g ca2) (kit_own ci2 cy2 s9_9 s9_2) (.own (PySem.W.mg_of X T.g ca3) (kit_own ci3 cy3 s9_9 s9_3) (.own (PySem.W.mg_of X T.g ca4) (kit_own ci4 cy4 s9_9 s9_4) (.own (PySem.W.mg_of X T.g ca5) (kit_own ci5 cy5 s9_9 s9_5) (.own (PySem.W.mg_of X T.g ca6) (kit_own ci6 cy6 s9_9 s9_6) (.own (PySem.W.mg_of X T.g ca7) (kit_own ci7 cy7 s9_9 s9_7) (.own (PySem.W.mg_of X T.g ca8) (kit_own ci8 cy8 s9_9 s9_8) (.own (PySem.W.mg_of X T.g ca9) (kit_own ci9 cy9 s9_9 s9_9) (.own (PySem.W.mg_of X T.g ca10) (kit_own ci10 cy10 s9_9 s9_10) (.own (PySem.W.mg_of X T.g ca11) (kit_own ci11 cy11 s9_9 s9_11) (.own (PySem.W.mg_of X T.g ca12) (kit_own ci12 cy12 s9_9 s9_12) (.own (PySem.W.mg_of X T.g ca13) (kit_own ci13 cy13 s9_9 s9_13) (.own (PySem.W.mg_of X T.g ca14) (kit_own ci14 cy14 s9_9 s9_14) (.bt (PySem.W.mg_none_of X T.g z_ValueError) xb_ValueError (kit_bt (by decide +kernel) sb9_ValueError) (.bt (PySem.W.mg_none_of X T.g z_IndexError) xb_IndexError (kit_bt (by decide +kernel) sb9_IndexError) (.bt (PySem.W.mg_none_of X T.g z_KeyError) xb_KeyError (kit_bt (by decide +kernel) sb9_KeyError) (.bt (PySem.W.mg_none_of X T.g z_OverflowError) xb_OverflowError (kit_bt (by decide +kernel) sb9_OverflowError) (.bt (PySem.W.mg_none_of X T.g z_LookupError) xb_LookupError (kit_bt (by decide +kernel) sb9_LookupError) (.bt (PySem.W.mg_none_of X T.g z_ArithmeticError) xb_ArithmeticError (kit_bt (by decide +kernel) sb9_ArithmeticError) .nil)))))))))))))))))))))
      have r10 : RowX K mg Cx10 _ := (.own (PySem.W.mg_of X T.g ca0) (kit_own ci0 cy0 s10_10 s10_0) (.own (PySem.W.mg_of X T.g ca1) (kit_own ci1 cy1 s10_10 s10_1) (.own (PySem.W.mg_of X T.g ca2) (kit_own ci2 cy2 s10_10 s10_2) (.own (PySem.W.mg_of X T.g ca3) (kit_own ci3 cy3 s10_10 s10_3) (.own (PySem.W.mg_of X T.g ca4) (kit_own ci4 cy4 s10_10 s10_4) (.own (PySem.W.mg_of X T.g ca5) (kit_own ci5 cy5 s10_10 s10_5) (.own (PySem.W.mg_of X T.g ca6) (kit_own ci6 cy6 s10_10 s10_6) (.own (PySem.W.mg_of X T.g ca7) (kit_own ci7 cy7 s10_10 s10_7) (.own (PySem.W.mg_of X T.g ca8) (kit_own ci8 cy8 s10_10 s10_8) (.own (PySem.W.mg_of X T.g ca9) (kit_own ci9 cy9 s10_10 s10_9) (.own (PySem.W.mg_of X T.g ca10) (kit_own ci10 cy10 s10_10 s10_10) (.own (PySem.W.mg_of X T.g ca11) (kit_own ci11 cy11 s10_10 s10_11) (.own (PySem.W.mg_of X T.g ca12) (kit_own ci12 cy12 s10_10 s10_12) (.own (PySem.W.mg_of X T.g ca13) (kit_own ci13 cy13 s10_10 s10_13) (.own (PySem.W.mg_of X T.g ca14) (kit_own ci14 cy14 s10_10 s10_14) (.bt (PySem.W.mg_none_of X T.g z_ValueError) xb_ValueError (kit_bt (by decide +kernel) sb10_ValueError) (.bt (PySem.W.mg_none_of X T.g z_IndexError) xb_IndexError (kit_bt (by decide +kernel) sb10_IndexError) (.bt (PySem.W.mg_none_of X T.g z_KeyError) xb_KeyError (kit_bt (by decide +kernel) sb10_KeyError) (.bt (PySem.W.mg_none_of X T.g z_OverflowError) xb_OverflowError (kit_bt (by decide +kernel) sb10_OverflowError) (.bt (PySem.W.mg_none_of X T.g z_LookupError) xb_LookupError (kit_bt (by decide +kernel) sb10_LookupError) (.bt (PySem.W.mg_none_of X T.g z_ArithmeticError) xb_ArithmeticError (kit_bt (by decide +kernel) sb10_ArithmeticError) .nil)))))))))))))))))))))
      have r11 : RowX K mg Cx11 _ := (.own (PySem.W.mg_of X T.g ca0) (kit_own ci0 cy0 s11_11 s11_0) (.own (PySem.W.mg_of X T.g ca1) (kit_own ci1 cy1 s11_11 s11_1) (.own (PySem.W.mg_of X T.g ca2) (kit_own ci2 cy2 s11_11 s11_2) (.own (PySem.W.mg_of X T.g ca3) (kit_own ci3 cy3 s11_11 s11_3) (.own (PySem.W.mg_of X T.g ca4) (kit_own ci4 cy4 s11_11 s11_4) (.own (PySem.W.mg_of X T.g ca5) (kit_own ci5 cy5 s11_11 s11_5) (.own (PySem.W.mg_of X T.g ca6) (kit_own ci6 cy6 s11_11 s11_6) (.own (PySem.W.mg_of X T.g ca7) (kit_own ci7 cy7 s11_11 s11_7) (.own (PySem.W.mg_of X T.g ca8) (kit_own ci8 cy8 s11_11 s11_8) (.own (PySem.W.mg_of X T.g ca9) (kit_own ci9 cy9 s11_11 s11_9) (.own (PySem.W.mg_of X T.g ca10) (kit_own ci10 cy10 s11_11 s11_10) (.own (PySem.W.mg_of X T.g ca11) (kit_own ci11 cy11 s11_11 s11_11) (.own (PySem.W.mg_of X T.g ca12) (kit_own ci12 cy12 s11_11 s11_12) (.own (PySem.W.mg_of X T.g ca13) (kit_own ci13 cy13 s11_11 s11_13) (.own (PySem.W.mg_of X T.g ca14) (kit_own ci14 cy14 s11_11 s11_14) (.bt (PySem.W.mg_none_of X T.g z_ValueError) xb_ValueError (kit_bt (by decide +kernel) sb11_ValueError) (.bt (PySem.W.mg_none_of X T.g z_IndexError) xb_IndexError (kit_bt (by decide +kernel) sb11_IndexError) (.bt (PySem.W.mg_none_of X T.g z_KeyError) xb_KeyError (kit_bt (by decide +kernel) sb11_KeyError) (.bt (PySem.W.mg_none_of X T.g z_OverflowError) xb_OverflowError (kit_bt (by decide +kernel) sb11_OverflowError) (.bt (PySem.W.mg_none_of X T.g z_LookupError) xb_LookupError (kit_bt (by decide +kernel) sb11_LookupError) (.bt (PySem.W.mg_none_of X T.g z_ArithmeticError) xb_ArithmeticError (kit_bt (by decide +kernel) sb11_ArithmeticError) .nil)))))))))))))))))))))
      have r12 : RowX K mg Cx12 _ := (.own (PySem.W.mg_of X T.g ca0) (kit_own ci0 cy0 s12_12 s12_0) (.own (PySem.W.mg_of X T.g ca1) (kit_own ci1 cy1 s12_12 s12_1) (.own (PySem.W.mg_of X T.g ca2) (kit_own ci2 cy2 s12_12 s12_2) (.own (PySem.W.mg_of X T.g ca3) (kit_own ci3 cy3 s12_12 s12_3) (.own (PySem.W.mg_of X T.g ca4) (kit_own ci4 cy4 s12_12 s12_4) (.own (PySem.W.mg_of X T.g ca5) (kit_own ci5 cy5 s12_12 s12_5) (.own (PySem.W.mg_of X T.g ca6) (kit_own ci6 cy6 s12_12 s12_6) (.own (PySem.W.mg_of X T.g ca7) (kit_own ci7 cy7 s12_12 s12_7) (.own (PySem.W.mg_of X T.g ca8) (kit_own ci8 cy8 s12_12 s12_8) (.own (PySem.W.mg_of X T.g ca9) (kit_own ci9 cy9 s12_12 s12_9) (.own (PySem.W.mg_of X T.g ca10) (kit_own ci10 cy10 s12_12 s12_10) (.own (PySem.W.mg_of X T.g ca11) (kit_own ci11 cy11 s12_12 s12_11) (.own (PySem.W.mg_of X T.g ca12) (kit_own ci12 cy12 s12_12 s12_12) (.own (PySem.W.mg_of X T.g ca13) (kit_own ci13 cy13 s12_12 s12_13) (.own (PySem.W.mg_of X T.g ca14) (kit_own ci14 cy14 s12_12 s12_14) (.bt (PySem.W.mg_none_of X T.g z_ValueError) xb_ValueError (kit_bt (by decide +kernel) sb12_ValueError) (.bt (PySem.W.mg_none_of X T.g z_IndexError) xb_IndexError (kit_bt (by decide +kernel) sb12_IndexError) (.bt (PySem.W.mg_none_of X T.g z_KeyError) xb_KeyError (kit_bt (by decide +kernel) sb12_KeyError) (.bt (PySem.W.mg_none_of X T.g z_OverflowError) xb_OverflowError (kit_bt (by decide +kernel) sb12_OverflowError) (.bt (PySem.W.mg_none_of X T.g z_LookupError) xb_LookupError (kit_bt (by decide +kernel) sb12_LookupError) (.bt (PySem.W.mg_none_of X T.g z_ArithmeticError) xb_ArithmeticError (kit_bt (by decide +kernel) sb12_ArithmeticError) .nil)))))))))))))))))))))
      have r13 : RowX K mg Cx13 _ := (.own (PySem.W.mg_of X T.g ca0) (kit_own ci0 cy0 s13_13 s13_0) (.own (PySem.W.mg_of X T.g ca1) (kit_own ci1 cy1 s13_13 s13_1) (.own (PySem.W.mg_of X T.g ca2) (kit_own ci2 cy2 s13_13 s13_2) (.own (PySem.W.mg_of X T.g ca3) (kit_own ci3 cy3 s13_13 s13_3) (.own (PySem.W.mg_of X T.g ca4) (kit_own ci4 cy4 s13_13 s13_4) (.own (PySem.W.mg_of X T.g ca5) (kit_own ci5 cy5 s13_13 s13_5) (.own (PySem.W.mg_of X T.g ca6) (kit_own ci6 cy6 s13_13 s13_6) (.own (PySem.W.mg_of X T.g ca7) (kit_own ci7 cy7 s13_13 s13_7) (.own (PySem.W.mg_of X T.g ca8) (kit_own ci8 cy8 s13_13 s13_8) (.own (PySem.W.mg_of X T.g ca9) (kit_own ci9 cy9 s13_13 s13_9) (.own (PySem.W.mg_of X T.g ca10) (kit_own ci10 cy10 s13_13 s13_10) (.own (PySem.W.mg_of X T.g ca11) (kit_own ci11 cy11 s13_13 s13_11) (.own (PySem.W.mg_of X T.g ca12) (kit_own ci12 cy12 s13_13 s13_12) (.own (PySem.W.mg_of X T.g ca13) (kit_own ci13 cy13 s13_13 s13_13) (.own (PySem.W.mg_of X T.g ca14) (kit_own ci14 cy14 s13_13 s13_14) (.bt (PySem.W.mg_none_of X T.g z_ValueError) xb_ValueError (kit_bt (by decide +kernel) sb13_ValueError) (.bt (PySem.W.mg_none_of X T.g z_IndexError) xb_IndexError (kit_bt (by decide +kernel) sb13_IndexError) (.bt (PySem.W.mg_none_of X T.g z_KeyError) xb_KeyError (kit_bt (by decide +kernel) sb13_KeyError) (.bt (PySem.W.mg_none_of X T.g z_OverflowError) xb_OverflowError (kit_bt (by decide +kernel) sb13_OverflowError) (.bt (PySem.W.mg_none_of X T.g z_LookupError) xb_LookupError (kit_bt (by decide +kernel) sb13_LookupError) (.bt (PySem.W.mg_none_of X T.g z_ArithmeticError) xb_ArithmeticError (kit_bt (by decide +kernel) sb13_ArithmeticError) .nil)))))))))))))))))))))
      have r14 : RowX K mg Cx14 _ := (.own (PySem.W.mg_of X T.g ca0) (kit_own ci0 cy0 s14_14 s14_0) (.own (PySem.W.mg_of X T.g ca1) (kit_own ci1 cy1 s14_14 s14_1) (.own (PySem.W.mg_of X T.g ca2) (kit_own ci2 cy2 s14_14 s14_2) (.own (PySem.W.mg_of X T.g ca3) (kit_own ci3 cy3 s14_14 s14_3) (.own (PySem.W.mg_of X T.g ca4) (kit_own ci4 cy4 s14_14 s14_4) (.own (PySem.W.mg_of X T.g ca5) (kit_own ci5 cy5 s14_14 s14_5) (.own (PySem.W.mg_of X T.g ca6) (kit_own ci6 cy6 s14_14 s14_6) (.own (PySem.W.mg_of X T.g ca7) (kit_own ci7 cy7 s14_14 s14_7) (.own (PySem.W.mg_of X T.g ca8) (kit_own ci8 cy8 s14_14 s14_8) (.own (PySem.W.mg_of X T.g ca9) (kit_own ci9 cy9 s14_14 s14_9) (.own (PySem.W.mg_of X T.g ca10) (kit_own ci10 cy10 s14_14 s14_10) (.own (PySem.W.mg_of X T.g ca11) (kit_own ci11 cy11 s14_14 s14_11) (.own (PySem.W.mg_of X T.g ca12) (kit_own ci12 cy12 s14_14 s14_12) (.own (PySem.W.mg_of X T.g ca13) (kit_own ci13 cy13 s14_14 s14_13) (.own (PySem.W.mg_of X T.g ca14) (kit_own ci14 cy14 s14_14 s14_14) (.bt (PySem.W.mg_none_of X T.g z_ValueError) xb_ValueError (kit_bt (by decide +kernel) sb14_ValueError) (.bt (PySem.W.mg_none_of X T.g z_IndexError) xb_IndexError (kit_bt (by decide +kernel) sb14_IndexError) (.bt (PySem.W.mg_none_of X T.g z_KeyError) xb_KeyError (kit_bt (by decide +kernel) sb14_KeyError) (.bt (PySem.W.mg_none_of X T.g z_OverflowError) xb_OverflowError (kit_bt (by decide +kernel) sb14_OverflowError) (.bt (PySem.W.mg_none_of X T.g z_LookupError) xb_LookupError (kit_bt (by decide +kernel) sb14_LookupError) (.bt (PySem.W.mg_none_of X T.g z_ArithmeticError) xb_ArithmeticError (kit_bt (by decide +kernel) sb14_ArithmeticError) .nil)))))))))))))))))))))
      exact RowsX.get (rows := rows) (.cons ca0 ⟨cg0, cgg0, cb0, chd0, cha0, xhn, xht, chm0⟩ r0 (.cons ca1 ⟨cg1, cgg1, cb1, chd1, cha1, xhn, xht, chm1⟩ r1 (.cons ca2 ⟨cg2, cgg2, cb2, chd2, cha2, xhn, xht, chm2⟩ r2 (.cons ca3 ⟨cg3, cgg3, cb3, chd3, cha3, xhn, xht, chm3⟩ r3 (.cons ca4 ⟨cg4, cgg4, cb4, chd4, cha4, xhn, xht, chm4⟩ r4 (.cons ca5 ⟨cg5, cgg5, cb5, chd5, cha5, xhn, xht, chm5⟩ r5 (.cons ca6 ⟨cg6, cgg6, cb6, chd6, cha6, xhn, xht, chm6⟩ r6 (.cons ca7 ⟨cg7, cgg7, cb7, chd7, cha7, xhn, xht, chm7⟩ r7 (.cons ca8 ⟨cg8, cgg8, cb8, chd8, cha8, xhn, xht, chm8⟩ r8 (.cons ca9 ⟨cg9, cgg9, cb9, chd9, cha9, xhn, xht, chm9⟩ r9 (.cons ca10 ⟨cg10, cgg10, cb10, chd10, cha10, xhn, xht, chm10⟩ r10 (.cons ca11 ⟨cg11, cgg11, cb11, chd11, cha11, xhn, xht, chm11⟩ r11 (.cons ca12 ⟨cg12, cgg12, cb12, chd12, cha12, xhn, xht, chm12⟩ r12 (.cons ca13 ⟨cg13, cgg13, cb13, chd13, cha13, xhn, xht, chm13⟩ r13 (.cons ca14 ⟨cg14, cgg14, cb14, chd14, cha14, xhn, xht, chm14⟩ r14 .nil))))))))))))))) c t b h
    · intro c f h
      exact XfX.get (l := xfl) (.cons ca10 ⟨cg10, cgg10, cb10, chd10⟩ cno10 (.cons ca11 ⟨cg11, cgg11, cb11, chd11⟩ cno11 (.cons ca12 ⟨cg12, cgg12, cb12, chd12⟩ cno12 (.cons ca13 ⟨cg13, cgg13, cb13, chd13⟩ cno13 (.cons ca14 ⟨cg14, cgg14, cb14, chd14⟩ cno14 (.nil)))))) c f h
  · intro base hb
    refine AllD.defs (xs := [(Str.ofString "_wall"), (Str.ofString "is_integer"), (Str.ofString "is_between"), (Str.ofString "is_name"), (Str.ofString "common_divisor"), (Str.ofString "is_fraction"), (Str.ofString "require_fraction"), (Str.ofString "less_than"), (Str.ofString "compared"), (Str.ofString "are_tables"), (Str.ofString "are_keys"), (Str.ofString "is_cap"), (Str.ofString "ascending_dict"), (Str.ofString "checked_caps"), (Str.ofString "require_table"), (Str.ofString "_law_start"), (Str.ofString "_law_throw"), (Str.ofString "_law_pick"), (Str.ofString "_law_told"), (Str.ofString "_law_flags"), (Str.ofString "_law_bases"), (Str.ofString "_law_only"), (Str.ofString "_law_messages_right"), (Str.ofString "_law_values_right"), (Str.ofString "_law_taken"), (Str.ofString "law"), (Str.ofString "Schema.__init__")]) ?_ rfl
    refine .cons (defOk_mk rfl D0 t0 rfl rfl rfl (fun _ => PySem.W.mg_of X T.g a0) (fun h => by cases h)) ?_
    refine .cons (defOk_mk rfl D1 t1 rfl rfl rfl (fun _ => PySem.W.mg_of X T.g a1) (fun h => by cases h)) ?_
    refine .cons (defOk_mk rfl D2 t2 rfl rfl rfl (fun _ => PySem.W.mg_of X T.g a2) (fun h => by cases h)) ?_
    refine .cons (defOk_mk rfl D3 t3 rfl rfl rfl (fun _ => PySem.W.mg_of X T.g a3) (fun h => by cases h)) ?_
    refine .cons (defOk_mk rfl D4 t4 rfl rfl rfl (fun _ => PySem.W.mg_of X T.g a4) (fun h => by cases h)) ?_
    refine .cons (defOk_mk rfl D5 t5 rfl rfl rfl (fun _ => PySem.W.mg_of X T.g a5) (fun h => by cases h)) ?_
    refine .cons (defOk_mk rfl D6 t6 rfl rfl rfl (fun _ => PySem.W.mg_of X T.g a6) (fun h => by cases h)) ?_
    refine .cons (defOk_mk rfl D7 t7 rfl rfl rfl (fun _ => PySem.W.mg_of X T.g a7) (fun h => by cases h)) ?_
    refine .cons (defOk_mk rfl D8 t8 rfl rfl rfl (fun _ => PySem.W.mg_of X T.g a8) (fun h => by cases h)) ?_
    refine .cons (defOk_mk rfl D9 t9 rfl rfl rfl (fun _ => PySem.W.mg_of X T.g a9) (fun h => by cases h)) ?_
    refine .cons (defOk_mk rfl D10 t10 rfl rfl rfl (fun _ => PySem.W.mg_of X T.g a10) (fun h => by cases h)) ?_
    refine .cons (defOk_mk rfl D11 t11 rfl rfl rfl (fun _ => PySem.W.mg_of X T.g a11) (fun h => by cases h)) ?_
    refine .cons (defOk_mk rfl D12 t12 rfl rfl rfl (fun _ => PySem.W.mg_of X T.g a12) (fun h => by cases h)) ?_
    refine .cons (defOk_mk rfl D13 t13 rfl rfl rfl (fun _ => PySem.W.mg_of X T.g a13) (fun h => by cases h)) ?_
    refine .cons (defOk_mk rfl D14 t14 rfl rfl rfl (fun _ => PySem.W.mg_of X T.g a14) (fun h => by cases h)) ?_
    refine .cons (defOk_mk rfl D15 t15 rfl rfl rfl (fun _ => PySem.W.mg_of X T.g a15) (fun h => by cases h)) ?_
    refine .cons (defOk_mk rfl D16 t16 rfl rfl rfl (fun _ => PySem.W.mg_of X T.g a16) (fun h => by cases h)) ?_
    refine .cons (defOk_mk rfl D17 t17 rfl rfl rfl (fun _ => PySem.W.mg_of X T.g a17) (fun h => by cases h)) ?_
    refine .cons (defOk_mk rfl D18 t18 rfl rfl rfl (fun _ => PySem.W.mg_of X T.g a18) (fun h => by cases h)) ?_
    refine .cons (defOk_mk rfl D19 t19 rfl rfl rfl (fun _ => PySem.W.mg_of X T.g a19) (fun h => by cases h)) ?_
    refine .cons (defOk_mk rfl D20 t20 rfl rfl rfl (fun _ => PySem.W.mg_of X T.g a20) (fun h => by cases h)) ?_
    refine .cons (defOk_mk rfl D21 t21 rfl rfl rfl (fun _ => PySem.W.mg_of X T.g a21) (fun h => by cases h)) ?_
    refine .cons (defOk_mk rfl D22 t22 rfl rfl rfl (fun _ => PySem.W.mg_of X T.g a22) (fun h => by cases h)) ?_
    refine .cons (defOk_mk rfl D23 t23 rfl rfl rfl (fun _ => PySem.W.mg_of X T.g a23) (fun h => by cases h)) ?_
    refine .cons (defOk_mk rfl D24 t24 rfl rfl rfl (fun _ => PySem.W.mg_of X T.g a24) (fun h => by cases h)) ?_
    refine .cons (defOk_mk rfl D25 t25 rfl rfl rfl (fun _ => PySem.W.mg_of X T.g a25) (fun _ => ⟨c25, P25, hb (c25, P25) (by simp), rfl, by simp, ?_⟩)) ?_
    · intro q hq hP
      simp only [List.mem_cons, List.not_mem_nil, or_false] at hq
      subst hq
      rfl
    refine .cons (defOk_mkK rfl l26 e26 k26 t26 rfl rfl (bindX_two (t := 2) rfl q1_26 q2_26 q3_26 q4_26 rfl (kw26 Dk26 dc26 pm26 an26 cd26 ct26)) (by decide +kernel) (by decide +kernel)) ?_
    exact .nil
end K00
namespace MX
open PySem L2
/-! ### reasoning about the mirror -/
/-- the f-th function called, over n further levels -/
def cf (pg : Pg) (n f : Nat) (ds : List D) (h : Hh) : R D := (mkCl pg (tabs pg n)).call f ds h
abbrev E0 (pg : Pg) (n : Nat) : Ev := ⟨pg, tabs pg n, none, none⟩
theorem cf_eq {pg : Pg} {n f : Nat} {ds : List D} {h : Hh} {fd : FD} (e : pg.fns[f]? = some fd) (ht : fd.thk = false) (hl : ds.length = fd.np) :
    cf pg n f ds h = retR (exSs (E0 pg n) fd.body (ds.map some ++ List.replicate (fd.ns - ds.length) none) h) := by
  unfold cf mkCl
  simp only [e, ht, hl, true_and, if_true]
theorem ev_call {pg : Pg} {n f : Nat} {es : CEs} {env : Env} {t : Option (M D)} {x : Option XV} : evE ⟨pg, tabs pg (n + 1), t, x⟩ (.call f es) env = M.bind (evEs ⟨pg, tabs pg (n + 1), t, x⟩ es env) (fun xs => cf pg n f xs) := by
  simp only [evE]
  rfl
/-- what holds behind -/
def wp {α : Type} (r : R α) (Q : α → Hh → Prop) (E : XV → Hh → Prop) : Prop := match r with
  | .ok a h => Q a h
  | .exc x h => E x h
  | .bad => False
theorem wp_bind {α β : Type} (m : M α) (f : α → M β) (h : Hh) (Q : β → Hh → Prop) (E : XV → Hh → Prop) : wp (M.bind m f h) Q E = wp (m h) (fun a h' => wp (f a h') Q E) E := by
  unfold M.bind
  cases m h <;> rfl
theorem wp_mono {α : Type} {r : R α} {Q Q' : α → Hh → Prop} {E E' : XV → Hh → Prop} (w : wp r Q E) (k : ∀ a h, Q a h → Q' a h) (j : ∀ x h, E x h → E' x h) : wp r Q' E' := by
  cases r with
  | ok a h => exact k a h w
  | exc x h => exact j x h w
  | bad => exact w
theorem bind_ok {α β : Type} {m : M α} {f : α → M β} {h h' : Hh} {a : α} (e : m h = .ok a h') : M.bind m f h = f a h' := by
  unfold M.bind
  rw [e]
/-- the ends of statements -/
structure Po where
  nx : Env → Hh → Prop
  rt : D → Hh → Prop
  bk : Env → Hh → Prop := fun _ _ => False
  ct : Env → Hh → Prop := fun _ _ => False
  ex : XV → Env → Hh → Prop := fun _ _ _ => False
def wps (r : SR) (P : Po) : Prop := match r with
  | .nxt env h => P.nx env h
  | .brk env h => P.bk env h
  | .cnt env h => P.ct env h
  | .ret d h => P.rt d h
  | .exc x env h => P.ex x env h
  | .bad => False
theorem wps_nil {ev : Ev} {env : Env} {h : Hh} {P : Po} : wps (exSs ev .nil env h) P = P.nx env h := rfl
theorem wps_cons {ev : Ev} {s : CS} {ss : CSs} {env : Env} {h : Hh} {P : Po} : wps (exSs ev (.cons s ss) env h) P = wps (exS ev s env h) { P with nx := fun env' h' => wps (exSs ev ss env' h') P } := by
  simp only [exSs]
  cases exS ev s env h <;> rfl
theorem wps_lift {α : Type} {m : M α} {env : Env} {k : α → Hh → SR} {h : Hh} {P : Po} : wps (liftE m env k h) P = wp (m h) (fun a h' => wps (k a h') P) (fun x h' => P.ex x env h') := by
  unfold liftE
  cases m h <;> rfl
theorem wp_ret {r : SR} {Q : D → Hh → Prop} {E : XV → Hh → Prop} : wp (retR r) Q E = wps r { nx := fun _ h => Q .non h, rt := Q, ex := fun x _ h => E x h } := by
  cases r <;> rfl
theorem wps_mono {r : SR} {P P' : Po} (w : wps r P) (h1 : ∀ e h, P.nx e h → P'.nx e h) (h2 : ∀ d h, P.rt d h → P'.rt d h) (h3 : ∀ e h, P.bk e h → P'.bk e h) (h4 : ∀ e h, P.ct e h → P'.ct e h) (h5 : ∀ x e h, P.ex x e h → P'.ex x e h) : wps r P' := by
  cases r with
  | nxt e h => exact h1 e h w
  | brk e h => exact h3 e h w
  | cnt e h => exact h4 e h w
  | ret d h => exact h2 d h w
  | exc x e h => exact h5 x e h w
  | bad => exact w
/-! ### loops -/
/-- a loop over what is walked: I tells what holds, by the turns that remain and what is still to come -/
theorem for_wk {turn : D → Env → Hh → SR} {P : Po} (I : Nat → Wk → Env → Hh → Prop)
    (step : ∀ n wk env h, I n wk env h → match wk.next h with
      | none => False
      | some none => P.nx env h
      | some (some (d, wk')) => ∃ m, n = m + 1 ∧ wps (turn d env h) { P with nx := I m wk', ct := I m wk', bk := P.nx }) :
    ∀ (n : Nat) (wk : Wk) (env : Env) (h : Hh), I n wk env h → wps (loopF turn n wk env h) P := by
  intro n
  induction n with
  | zero =>
    intro wk env h hI
    have s := step 0 wk env h hI
    cases e : wk.next h with
    | none =>
      rw [e] at s
      exact s.elim
    | some o =>
      cases o with
      | none =>
        rw [e] at s
        rw [loopF_stop e]
        exact s
      | some y =>
        obtain ⟨d, wk'⟩ := y
        rw [e] at s
        obtain ⟨m, hm, _⟩ := s
        cases hm
  | succ n ih =>
    intro wk env h hI
    have s := step (n + 1) wk env h hI
    cases e : wk.next h with
    | none =>
      rw [e] at s
      exact s.elim
    | some o =>
      cases o with
      | none =>
        rw [e] at s
        rw [loopF_stop e]
        exact s
      | some y =>
        obtain ⟨d, wk'⟩ := y
        rw [e] at s
        obtain ⟨m, hm, w⟩ := s
        cases hm
        rw [loopF_go e]
        cases ht : turn d env h with
        | nxt e' h' =>
          rw [ht] at w
          exact ih wk' e' h' w
        | cnt e' h' =>
          rw [ht] at w
          exact ih wk' e' h' w
        | brk e' h' =>
          rw [ht] at w
          exact w
        | ret d' h' =>
          rw [ht] at w
          exact w
        | exc x e' h' =>
          rw [ht] at w
          exact w
        | bad =>
          rw [ht] at w
          exact w
/-- over a tuple -/
theorem for_tup {turn : D → Env → Hh → SR} {P : Po} (I : List D → Env → Hh → Prop) (step : ∀ d r env h, I (d :: r) env h → wps (turn d env h) { P with nx := I r, ct := I r, bk := P.nx }) (fin : ∀ env h, I [] env h → P.nx env h)
    {xs : List D} {env : Env} {h : Hh} (h0 : I xs env h) : wps (loopF turn xs.length (.tup xs) env h) P := by
  refine for_wk (fun n wk env h => ∃ ys, wk = .tup ys ∧ n = ys.length ∧ I ys env h) ?_ _ _ _ _ ⟨xs, rfl, rfl, h0⟩
  rintro n wk env h ⟨ys, rfl, rfl, hI⟩
  cases ys with
  | nil => exact fin env h hI
  | cons d r =>
    refine ⟨r.length, rfl, wps_mono (step d r env h hI) (fun e h z => ⟨r, rfl, rfl, z⟩) (fun _ _ z => z) (fun _ _ z => z) (fun e h z => ⟨r, rfl, rfl, z⟩) fun _ _ _ z => z⟩
/-- over a range -/
theorem for_rng {turn : D → Env → Hh → SR} {P : Po} (I : Int → Nat → Env → Hh → Prop) (step : ∀ lo n env h, I lo (n + 1) env h → wps (turn (.int lo) env h) { P with nx := I (lo + 1) n, ct := I (lo + 1) n, bk := P.nx }) (fin : ∀ lo env h, I lo 0 env h → P.nx env h)
    {lo : Int} {n : Nat} {env : Env} {h : Hh} (h0 : I lo n env h) : wps (loopF turn n (.rng lo n) env h) P := by
  refine for_wk (fun n wk env h => ∃ lo, wk = .rng lo n ∧ I lo n env h) ?_ _ _ _ _ ⟨lo, rfl, h0⟩
  rintro n wk env h ⟨lo, rfl, hI⟩
  cases n with
  | zero => exact fin lo env h hI
  | succ m => exact ⟨m, rfl, wps_mono (step lo m env h hI) (fun e h z => ⟨lo + 1, rfl, z⟩) (fun _ _ z => z) (fun _ _ z => z) (fun e h z => ⟨lo + 1, rfl, z⟩) fun _ _ _ z => z⟩
/-- over a list that stays as it is: xs, i of it done -/
theorem for_lst {turn : D → Env → Hh → SR} {P : Po} {r : Nat} (xs : List D) (I : List D → Env → Hh → Prop) (at_ : ∀ ys env h, I ys env h → h[r]? = some (.lst xs)) (step : ∀ d ys env h, (d ∈ xs) → I (d :: ys) env h → wps (turn d env h) { P with nx := I ys, ct := I ys, bk := P.nx }) (fin : ∀ env h, I [] env h → P.nx env h)
    {env : Env} {h : Hh} (h0 : I xs env h) : wps (loopF turn xs.length (.lst r 0 xs.length) env h) P := by
  refine for_wk (fun n wk env h => ∃ i, wk = .lst r i n ∧ i + n = xs.length ∧ I (xs.drop i) env h) ?_ _ _ _ _ ⟨0, rfl, by simp, h0⟩
  rintro n wk env h ⟨i, rfl, hn, hI⟩
  have ha := at_ _ _ _ hI
  cases n with
  | zero =>
    have e : Wk.next h (.lst r i 0) = some none := by
      simp only [Wk.next, seqOf, ha]
      rw [if_pos (by omega)]
    rw [e]
    have z : xs.drop i = [] := List.drop_eq_nil_of_le (by omega)
    rw [z] at hI
    exact fin env h hI
  | succ m =>
    have hi : i < xs.length := by omega
    have e : Wk.next h (.lst r i (m + 1)) = some (some (xs[i], .lst r (i + 1) m)) := by
      simp only [Wk.next, seqOf, ha]
      rw [if_pos (by omega)]
      simp [hi]
    rw [e]
    rw [List.drop_eq_getElem_cons hi] at hI
    exact ⟨m, rfl, wps_mono (step _ _ env h (List.getElem_mem hi) hI) (fun e h z => ⟨i + 1, rfl, by omega, z⟩) (fun _ _ z => z) (fun _ _ z => z) (fun e h z => ⟨i + 1, rfl, by omega, z⟩) fun _ _ _ z => z⟩
theorem while_wp {c : Env → M Bool} {turn : Env → Hh → SR} {P : Po} (I : Nat → Env → Hh → Prop)
    (step : ∀ n env h, I n env h → wp (c env h) (fun k h1 => match k with
      | false => P.nx env h1
      | true => ∃ m, m < n ∧ wps (turn env h1) { P with nx := I m, ct := I m, bk := P.nx }) (fun x h1 => P.ex x env h1)) :
    ∀ (w n : Nat) (env : Env) (h : Hh), n < w → I n env h → wps (loopW c turn w env h) P := by
  intro w
  induction w with
  | zero =>
    intro n env h hw
    omega
  | succ w ih =>
    intro n env h hw hI
    rw [loopW, wps_lift]
    refine wp_mono (step n env h hI) (fun k h1 z => ?_) fun _ _ z => z
    cases k with
    | false => exact z
    | true =>
      obtain ⟨m, hm, z⟩ := z
      cases ht : turn env h1 with
      | nxt e' h' =>
        rw [ht] at z
        exact ih m e' h' (by omega) z
      | cnt e' h' =>
        rw [ht] at z
        exact ih m e' h' (by omega) z
      | brk e' h' =>
        rw [ht] at z
        exact z
      | ret d' h' =>
        rw [ht] at z
        exact z
      | exc x e' h' =>
        rw [ht] at z
        exact z
      | bad =>
        rw [ht] at z
        exact z
/-! ### equations that simp runs -/
def rb {α β : Type} (r : R α) (f : α → Hh → R β) : R β := match r with
  | .ok a h => f a h
  | .exc x h => .exc x h
  | .bad => .bad
def rs {α : Type} (r : R α) (env : Env) (f : α → Hh → SR) : SR := match r with
  | .ok a h => f a h
  | .exc x h => .exc x env h
  | .bad => .bad
def sb (r : SR) (f : Env → Hh → SR) : SR := match r with
  | .nxt env h => f env h
  | r => r
def slotR (o : Option (Option D)) (h : Hh) : R D := match o with
  | some (some d) => .ok d h
  | _ => .bad
section
variable {α β γ : Type} {a : α} {h : Hh} {x : XV} {f : α → Hh → R β} {k : α → Hh → SR} {env : Env} {g : Env → Hh → SR} {d : D} {c : Prop} [Decidable c] {r r' : R α} {q q' : SR} {Q : α → Hh → Prop} {E : XV → Hh → Prop} {P : Po}
@[simp] theorem rb_ok : rb (.ok a h) f = f a h := Eq.trans rfl rfl
@[simp] theorem rb_exc : rb (.exc x h) f = .exc x h := Eq.trans rfl rfl
@[simp] theorem rb_bad : rb .bad f = .bad := Eq.trans rfl rfl
@[simp] theorem rb_ite : rb (if c then r else r') f = if c then rb r f else rb r' f := by split <;> rfl
@[simp] theorem rs_ok : rs (.ok a h) env k = k a h := Eq.trans rfl rfl
@[simp] theorem rs_exc : rs (.exc x h) env k = .exc x env h := Eq.trans rfl rfl
@[simp] theorem rs_bad : rs .bad env k = .bad := Eq.trans rfl rfl
@[simp] theorem rs_ite : rs (if c then r else r') env k = if c then rs r env k else rs r' env k := by split <;> rfl
@[simp] theorem sb_nxt : sb (.nxt env h) g = g env h := Eq.trans rfl rfl
@[simp] theorem sb_ret : sb (.ret d h) g = .ret d h := Eq.trans rfl rfl
@[simp] theorem sb_exc : sb (.exc x env h) g = .exc x env h := Eq.trans rfl rfl
@[simp] theorem sb_brk : sb (.brk env h) g = .brk env h := Eq.trans rfl rfl
@[simp] theorem sb_cnt : sb (.cnt env h) g = .cnt env h := Eq.trans rfl rfl
@[simp] theorem sb_bad : sb .bad g = .bad := Eq.trans rfl rfl
@[simp] theorem sb_ite : sb (if c then q else q') g = if c then sb q g else sb q' g := by split <;> rfl
@[simp] theorem slotR_some : slotR (some (some d)) h = .ok d h := Eq.trans rfl rfl
@[simp] theorem ret_nxt : retR (.nxt env h) = .ok .non h := Eq.trans rfl rfl
@[simp] theorem ret_ret : retR (.ret d h) = .ok d h := Eq.trans rfl rfl
@[simp] theorem ret_exc : retR (.exc x env h) = .exc x h := Eq.trans rfl rfl
@[simp] theorem ret_bad : retR .bad = .bad := Eq.trans rfl rfl
@[simp] theorem ret_ite : retR (if c then q else q') = if c then retR q else retR q' := by split <;> rfl
@[simp] theorem wp_ok : wp (.ok a h) Q E = Q a h := Eq.trans rfl rfl
@[simp] theorem wp_exc : wp (.exc x h) Q E = E x h := Eq.trans rfl rfl
@[simp] theorem wp_bad : wp (.bad : R α) Q E = False := Eq.trans rfl rfl
theorem wp_rb {Q : β → Hh → Prop} : wp (rb r f) Q E = wp r (fun a h => wp (f a h) Q E) E := by cases r <;> rfl
theorem wps_rs : wps (rs r env k) P = wp r (fun a h => wps (k a h) P) (fun x h => P.ex x env h) := by cases r <;> rfl
theorem wps_sb : wps (sb q g) P = wps q { P with nx := fun e h => wps (g e h) P } := by cases q <;> rfl
@[simp] theorem wps_nxt : wps (.nxt env h) P = P.nx env h := Eq.trans rfl rfl
@[simp] theorem wps_ret : wps (.ret d h) P = P.rt d h := Eq.trans rfl rfl
@[simp] theorem wps_brk : wps (.brk env h) P = P.bk env h := Eq.trans rfl rfl
@[simp] theorem wps_cnt : wps (.cnt env h) P = P.ct env h := Eq.trans rfl rfl
@[simp] theorem wps_exc : wps (.exc x env h) P = P.ex x env h := Eq.trans rfl rfl
@[simp] theorem wps_bad : wps .bad P = False := Eq.trans rfl rfl
theorem bind_rb {m : M α} {f : α → M β} : M.bind m f h = rb (m h) (fun a h => f a h) := by
  unfold M.bind
  cases m h <;> rfl
end
section
variable {ev : Ev} {env : Env} {h : Hh} {a b c : CE} {es : CEs}
@[simp] theorem e_slot {i : Nat} : evE ev (.slot i) env h = slotR env[i]? h := by
  simp only [evE, M.opt]
  cases env[i]? with
  | none => rfl
  | some o => cases o <;> rfl
@[simp] theorem e_con {d : D} : evE ev (.con d) env h = .ok d h := rfl
@[simp] theorem e_bin {o : BOp} : evE ev (.bin o a b) env h = rb (evE ev a env h) fun x h => rb (evE ev b env h) fun y h => binD o x y h := by simp only [evE, bind_rb]
@[simp] theorem e_neg : evE ev (.neg a) env h = rb (evE ev a env h) fun x h => match x with | .int i => .ok (.int (-i)) h | _ => .bad := by
  simp only [evE, bind_rb]
  congr 1
  funext x h
  cases x <;> rfl
@[simp] theorem e_not : evE ev (.notE a) env h = rb (evE ev a env h) fun x h => rb (tru x h) fun k h => .ok (.bl (!k)) h := by simp only [evE, bind_rb, M.pure]
@[simp] theorem e_and : evE ev (.andE a b) env h = rb (evE ev a env h) fun x h => rb (tru x h) fun k h => if k = true then evE ev b env h else .ok x h := by
  simp only [evE, bind_rb]
  congr 1
  funext x h
  congr 1
  funext k h
  cases k <;> rfl
@[simp] theorem e_or : evE ev (.orE a b) env h = rb (evE ev a env h) fun x h => rb (tru x h) fun k h => if k = true then .ok x h else evE ev b env h := by
  simp only [evE, bind_rb]
  congr 1
  funext x h
  congr 1
  funext k h
  cases k <;> rfl
@[simp] theorem e_cmp {o : COp} : evE ev (.cmp o a b) env h = rb (evE ev a env h) fun x h => rb (evE ev b env h) fun y h => cmpD o x y h := by simp only [evE, bind_rb]
@[simp] theorem e_isN : evE ev (.isN a) env h = rb (evE ev a env h) fun x h => .ok (.bl (match x with | .non => true | _ => false)) h := by
  simp only [evE, bind_rb, M.pure] <;> rfl
@[simp] theorem e_notN : evE ev (.notN a) env h = rb (evE ev a env h) fun x h => .ok (.bl (match x with | .non => false | _ => true)) h := by
  simp only [evE, bind_rb, M.pure] <;> rfl
@[simp] theorem e_chain {o p : COp} : evE ev (.chain o p a b c) env h = rb (evE ev a env h) fun x h => rb (evE ev b env h) fun y h => rb (cmpD o x y h) fun r h => match r with
    | .bl true => rb (evE ev c env h) fun z h => cmpD p y z h
    | .bl false => .ok (.bl false) h
    | _ => .bad := by
  simp only [evE, bind_rb]
  congr 1
  funext x h
  congr 1
  funext y h
  congr 1
  funext r h
  cases r with
  | bl k => cases k <;> simp only [bind_rb] <;> rfl
  | _ => rfl
@[simp] theorem e_ife : evE ev (.ife c a b) env h = rb (evE ev c env h) fun x h => rb (tru x h) fun k h => if k = true then evE ev a env h else evE ev b env h := by
  simp only [evE, bind_rb]
  congr 1
  funext x h
  congr 1
  funext k h
  cases k <;> rfl
@[simp] theorem e_tup : evE ev (.tup es) env h = rb (evEs ev es env h) fun xs h => if xs.length ≤ sizeLine then .ok (.tup xs) h else .bad := by
  simp only [evE, bind_rb]
  congr 1
  funext x h
  split <;> rfl
@[simp] theorem e_lst : evE ev (.lst es) env h = rb (evEs ev es env h) fun xs h => if xs.length ≤ sizeLine then .ok (.ref h.length) (h ++ [.lst xs]) else .bad := by
  simp only [evE, bind_rb]
  congr 1
  funext x h
  split <;> rfl
@[simp] theorem e_edct : evE ev .edct env h = .ok (.ref h.length) (h ++ [.dct []]) := rfl
@[simp] theorem e_idx : evE ev (.idx a b) env h = rb (evE ev a env h) fun x h => rb (evE ev b env h) fun y h => idxD x y h := by simp only [evE, bind_rb]
@[simp] theorem e_rev : evE ev (.rev a) env h = rb (evE ev a env h) fun x h => match x with | .tup xs => .ok (.tup xs.reverse) h | _ => .bad := by
  simp only [evE, bind_rb]
  congr 1
  funext x h
  cases x <;> rfl
@[simp] theorem e_call {pg : Pg} {n f : Nat} {t : Option (M D)} {x : Option XV} : evE ⟨pg, tabs pg (n + 1), t, x⟩ (.call f es) env h = rb (evEs ⟨pg, tabs pg (n + 1), t, x⟩ es env h) fun xs h => cf pg n f xs h := by
  rw [ev_call, bind_rb]
@[simp] theorem e_bt {o : Bt} : evE ev (.bt o es) env h = rb (evEs ev es env h) fun xs h => btD o xs h := by simp only [evE, bind_rb]
@[simp] theorem e_bm {o : Bm} : evE ev (.bm o a es) env h = rb (evE ev a env h) fun x h => rb (bmK o x h) fun _ h => rb (evEs ev es env h) fun xs h => bmD o x xs h := by simp only [evE, bind_rb]
@[simp] theorem e_isi {t : Ty} : evE ev (.isi a t) env h = rb (evE ev a env h) fun x h => match isTy h t x with | some k => .ok (.bl k) h | none => .bad := by
  simp only [evE, bind_rb] <;> rfl
@[simp] theorem es_nil : evEs ev .nil env h = .ok [] h := rfl
@[simp] theorem es_cons : evEs ev (.cons a es) env h = rb (evE ev a env h) fun x h => rb (evEs ev es env h) fun xs h => .ok (x :: xs) h := by simp only [evEs, bind_rb, M.pure]
@[simp] theorem i_seq : evI ev (.seq a) env h = rb (evE ev a env h) fun x h => wkOf x h := by simp only [evI, bind_rb]
@[simp] theorem i_rng : evI ev (.rng a) env h = rb (evE ev a env h) fun x h => wkRng x h := by simp only [evI, bind_rb]
@[simp] theorem i_zip {st : Bool} : evI ev (.zip st a b) env h = rb (evE ev a env h) fun x h => rb (evE ev b env h) fun y h => wkZip st x y h := by simp only [evI, bind_rb]
@[simp] theorem i_enm : evI ev (.enm a) env h = rb (evE ev a env h) fun x h => wkEnm x h := by simp only [evI, bind_rb]
theorem lift_rs {α : Type} {m : M α} {k : α → Hh → SR} : liftE m env k h = rs (m h) env k := by
  unfold liftE
  cases m h <;> rfl
@[simp] theorem ss_nil : exSs ev .nil env h = .nxt env h := rfl
@[simp] theorem ss_cons {s : CS} {ss : CSs} : exSs ev (.cons s ss) env h = sb (exS ev s env h) fun env h => exSs ev ss env h := by
  simp only [exSs]
  cases exS ev s env h <;> rfl
@[simp] theorem s_ret : exS ev (.ret a) env h = rs (evE ev a env h) env fun d h => .ret d h := by simp only [exS, lift_rs]
@[simp] theorem s_retN : exS ev .retN env h = .ret .non h := rfl
@[simp] theorem s_expr : exS ev (.expr a) env h = rs (evE ev a env h) env fun _ h => .nxt env h := by simp only [exS, lift_rs]
@[simp] theorem s_asg {i : Nat} : exS ev (.asg (.name i) a) env h = rs (evE ev a env h) env fun d h => .nxt (env.set i (some d)) h := by simp only [exS, lift_rs, asgT]
theorem s_asgT {t : Tg} : exS ev (.asg t a) env h = rs (evE ev a env h) env fun d h => match asgT t d env with | some env' => .nxt env' h | none => .bad := by
  simp only [exS, lift_rs] <;> rfl
@[simp] theorem s_par {i j : Nat} : exS ev (.par [i, j] (.cons a (.cons b .nil))) env h = rs (evE ev a env h) env fun x h => rs (evE ev b env h) env fun y h => .nxt ((env.set i (some x)).set j (some y)) h := by
  simp only [exS, lift_rs, es_cons, es_nil]
  cases evE ev a env h with
  | ok x h1 =>
    simp only [rb_ok, rs_ok]
    cases evE ev b env h1 <;> rfl
  | exc x h1 => rfl
  | bad => rfl
@[simp] theorem s_if {p q : CSs} : exS ev (.ifS a p q) env h = rs (rb (evE ev a env h) fun x h => tru x h) env fun k h => if k = true then exSs ev p env h else exSs ev q env h := by
  simp only [exS, lift_rs, bind_rb]
  congr 1
  funext k h
  cases k <;> rfl
@[simp] theorem s_sets : exS ev (.sets a b c) env h = rs (rb (evE ev c env h) fun v h => rb (evE ev a env h) fun x h => rb (evE ev b env h) fun y h => setD x y v h) env fun _ h => .nxt env h := by simp only [exS, lift_rs, bind_rb]
@[simp] theorem s_raiseM {c : Nat} : exS ev (.raiseM c) env h = .exc ⟨c, []⟩ env h := rfl
@[simp] theorem s_raiseI {pg : Pg} {n f c : Nat} {t : Option (M D)} {x : Option XV} : exS ⟨pg, tabs pg (n + 2), t, x⟩ (.raiseI c f a) env h = rs (evE ⟨pg, tabs pg (n + 2), t, x⟩ a env h) env fun d h => .exc ⟨c, [(f, d)]⟩ env h := by
  simp only [exS, tabs, lift_rs]
@[simp] theorem s_for {t : Tg} {it : It} {b : CSs} : exS ev (.forS t it b) env h = rs (evI ev it env h) env fun wk h => loopF (fun d env h => match asgT t d env with | some env' => exSs ev b env' h | none => .bad) wk.len wk env h := by
  simp only [exS, lift_rs] <;> rfl
@[simp] theorem s_while {b : CSs} : exS ev (.whileS a b) env h = loopW (fun env => M.bind (evE ev a env) tru) (fun env h => exSs ev b env h) ev.pg.W env h := by simp only [exS]
@[simp] theorem tru_bl {k : Bool} : tru (.bl k) h = .ok k h := rfl
@[simp] theorem tru_non : tru .non h = .ok false h := rfl
@[simp] theorem tru_int {i : Int} : tru (.int i) h = .ok (i != 0) h := rfl
@[simp] theorem tru_tup {xs : List D} : tru (.tup xs) h = .ok (!xs.isEmpty) h := rfl
@[simp] theorem isTy_non {t : Ty} : isTy h t .non = some false := rfl
@[simp] theorem isTy_bl {t : Ty} {k : Bool} : isTy h t (.bl k) = some (t == .int || t == .bool) := rfl
@[simp] theorem isTy_int {t : Ty} {i : Int} : isTy h t (.int i) = some (t == .int) := rfl
@[simp] theorem isTy_str {t : Ty} {x : Str} : isTy h t (.str x) = some (t == .str) := rfl
@[simp] theorem isTy_tup {t : Ty} {xs : List D} : isTy h t (.tup xs) = some (t == .tuple) := rfl
theorem isTy_lst {t : Ty} {r : Nat} {xs : List D} (e : h[r]? = some (.lst xs)) : isTy h t (.ref r) = some (t == .list) := by simp only [isTy, e]
theorem isTy_dct {t : Ty} {r : Nat} {xs : List (D × D)} (e : h[r]? = some (.dct xs)) : isTy h t (.ref r) = some (t == .dict) := by simp only [isTy, e]
@[simp] theorem ty_beq (s t : Ty) : (s == t) = decide (s = t) := rfl
@[simp] theorem add_int {i j : Int} : binD .add (.int i) (.int j) h = .ok (.int (i + j)) h := rfl
@[simp] theorem sub_int {i j : Int} : binD .sub (.int i) (.int j) h = .ok (.int (i - j)) h := rfl
theorem mul_int {i j : Int} (z : i.natAbs.log2 + j.natAbs.log2 < 1000000) : binD .mul (.int i) (.int j) h = .ok (.int (i * j)) h := by
  simp only [binD, mulD, if_pos z, M.pure]
theorem fdiv_int {i j : Int} (z : 0 < j ∧ j.natAbs.log2 < 9000) : binD .fdiv (.int i) (.int j) h = .ok (.int (i / j)) h := by
  simp only [binD, fdivD, if_pos z, M.pure]
theorem mod_int {i j : Int} (z : 0 < j) : binD .mod (.int i) (.int j) h = .ok (.int (i % j)) h := by
  simp only [binD, modD, if_pos z, M.pure]
theorem pow_int {i j : Int} (z : 0 ≤ j ∧ ((i.natAbs.log2 + 1 : Nat) : Int) * j ≤ 1000000) : binD .pow (.int i) (.int j) h = .ok (.int (i ^ j.toNat)) h := by
  simp only [binD, powD, if_pos z, M.pure]
@[simp] theorem lt_int {i j : Int} : cmpD .lt (.int i) (.int j) h = .ok (.bl (decide (i < j))) h := rfl
@[simp] theorem le_int {i j : Int} : cmpD .le (.int i) (.int j) h = .ok (.bl (decide (i ≤ j))) h := rfl
@[simp] theorem gt_int {i j : Int} : cmpD .gt (.int i) (.int j) h = .ok (.bl (decide (j < i))) h := rfl
@[simp] theorem ge_int {i j : Int} : cmpD .ge (.int i) (.int j) h = .ok (.bl (decide (j ≤ i))) h := rfl
@[simp] theorem eq_int {i j : Int} : cmpD .eq (.int i) (.int j) h = .ok (.bl (decide (i = j))) h := rfl
@[simp] theorem ne_int {i j : Int} : cmpD .ne (.int i) (.int j) h = .ok (.bl (!decide (i = j))) h := rfl
@[simp] theorem idx_tup0 {x : D} {xs : List D} : idxD (.tup (x :: xs)) (.int 0) h = .ok x h := by
  simp only [idxD, seqOf, L2.atI, L2.ixN]
  simp
@[simp] theorem idx_tup1 {x y : D} {xs : List D} : idxD (.tup (x :: y :: xs)) (.int 1) h = .ok y h := by
  simp only [idxD, seqOf, L2.atI, L2.ixN]
  have : (1 : Int) < ((xs.length : Int) + 1 + 1) := by omega
  simp [this]
end
/-! ### comprehensions -/
theorem loopC_none {turn : D → M (Option D)} {r n : Nat} {wk : Wk} {h : Hh} (e : wk.next h = none) : loopC turn r n wk h = .bad := by
  rw [loopC.eq_def]
  simp only [e]
theorem loopC_stop {turn : D → M (Option D)} {r n : Nat} {wk : Wk} {h : Hh} (e : wk.next h = some none) : loopC turn r n wk h = .ok () h := by
  rw [loopC.eq_def]
  simp only [e]
theorem loopC_step {turn : D → M (Option D)} {r m : Nat} {wk wk' : Wk} {h : Hh} {d : D} (e : wk.next h = some (some (d, wk'))) : loopC turn r (m + 1) wk h = rb (turn d h) fun o h' => match o with
    | some y => rb (app r y h') fun _ h' => loopC turn r m wk' h'
    | none => loopC turn r m wk' h' := by
  rw [loopC.eq_def]
  simp only [e, bind_rb]
  congr 1
  funext o h'
  cases o <;> simp only [bind_rb]
theorem loopC_wp {turn : D → M (Option D)} {r : Nat} {Q : Unit → Hh → Prop} {E : XV → Hh → Prop} (I : Nat → Wk → Hh → Prop)
    (step : ∀ n wk h, I n wk h → match wk.next h with
      | none => False
      | some none => Q () h
      | some (some (d, wk')) => ∃ m, n = m + 1 ∧ wp (turn d h) (fun o h' => match o with
        | some y => ∃ xs, h'[r]? = some (.lst xs) ∧ xs.length < sizeLine ∧ I m wk' (h'.set r (.lst (xs ++ [y])))
        | none => I m wk' h') (fun _ _ => False)) :
    ∀ (n : Nat) (wk : Wk) (h : Hh), I n wk h → wp (loopC turn r n wk h) Q E := by
  intro n
  induction n with
  | zero =>
    intro wk h hI
    have s := step 0 wk h hI
    cases e : wk.next h with
    | none =>
      rw [e] at s
      exact s.elim
    | some o =>
      cases o with
      | none =>
        rw [e] at s
        rw [loopC_stop e]
        exact s
      | some y =>
        obtain ⟨d, wk'⟩ := y
        rw [e] at s
        obtain ⟨m, hm, _⟩ := s
        cases hm
  | succ n ih =>
    intro wk h hI
    have s := step (n + 1) wk h hI
    cases e : wk.next h with
    | none =>
      rw [e] at s
      exact s.elim
    | some o =>
      cases o with
      | none =>
        rw [e] at s
        rw [loopC_stop e]
        exact s
      | some y =>
        obtain ⟨d, wk'⟩ := y
        rw [e] at s
        obtain ⟨m, hm, w⟩ := s
        cases hm
        rw [loopC_step e, wp_rb]
        refine wp_mono w (fun o h' z => ?_) fun _ _ z => z.elim
        cases o with
        | none => exact ih wk' h' z
        | some y =>
          obtain ⟨xs, e1, e2, e3⟩ := z
          have e4 : app r y h' = .ok () (h'.set r (.lst (xs ++ [y]))) := by
            simp only [app, e1, if_pos e2]
          rw [wp_rb, e4]
          exact ih wk' _ e3
def nx {α : Type} (r : R α) : R α := match r with
  | .exc _ _ => .bad
  | r => r
@[simp] theorem nx_ok {α : Type} {a : α} {h : Hh} : nx (.ok a h) = .ok a h := Eq.trans rfl rfl
@[simp] theorem nx_bad {α : Type} : nx (.bad : R α) = .bad := Eq.trans rfl rfl
theorem wp_nx {α : Type} {r : R α} {Q : α → Hh → Prop} {E : XV → Hh → Prop} : wp (nx r) Q E = wp r Q (fun _ _ => False) := by cases r <;> rfl
theorem noX_nx {α : Type} {m : M α} {h : Hh} : noX m h = nx (m h) := rfl
/-- a turn -/
theorem turn_eq {ev : Ev} {elt : CE} {own : List Nat} {tg : Tg} {cond : CEs} {env env' : Env} {v : D} {h : Hh} (e : asgT tg v (wipeE env own) = some env') : turnM ev elt own tg cond env v h = nx (rb (condM ev cond env' h) fun k h => if k = true then rb (evE ev elt env' h) fun y h => .ok (some y) h else .ok none h) := by
  unfold turnM
  rw [noX_nx, e]
  simp only [bind_rb]
  congr 2
  funext k h
  cases k <;> simp only [bind_rb] <;> rfl
@[simp] theorem cond_nil {ev : Ev} {env : Env} {h : Hh} : condM ev .nil env h = .ok true h := rfl
@[simp] theorem cond_one {ev : Ev} {env : Env} {h : Hh} {c : CE} : condM ev (.cons c .nil) env h = rb (evE ev c env h) fun x h => tru x h := by
  simp only [condM, bind_rb]
theorem e_comp {ev : Ev} {elt : CE} {own : List Nat} {tg : Tg} {it : It} {cond : CEs} {env : Env} {h : Hh} : evE ev (.comp elt own tg it cond) env h = rb (evI ev it env h) fun wk h => rb (loopC (turnM ev elt own tg cond env) h.length wk.len wk (h ++ [.lst []])) fun _ h' => .ok (.ref h.length) h' := by
  rw [comp_eq]
  simp only [bind_rb]
  congr 1
/-- the items that stand ahead -/
def Wk.items : Wk → Option (List D)
  | .tup xs => some xs
  | .str cs => some (cs.map sign1)
  | .rng lo n => some ((List.range n).map fun (k : Nat) => .int (lo + (k : Int)))
  | .lst _ _ _ => none
  | .zip _ _ _ _ _ => none
  | .enm _ _ _ => none
  | .key _ _ _ => none
theorem items_len {wk : Wk} {xs : List D} (e : wk.items = some xs) : wk.len = xs.length := by
  cases wk <;> cases e <;> simp [Wk.len]
theorem items_nil {wk : Wk} (h : Hh) (e : wk.items = some []) : wk.next h = some none := by
  cases wk with
  | tup xs =>
    cases e
    rfl
  | str cs =>
    cases cs with
    | nil => rfl
    | cons c r => cases e
  | rng lo n =>
    cases n with
    | zero => rfl
    | succ n =>
      simp only [Wk.items, Option.some.injEq] at e
      simp at e
  | lst r i k => cases e
  | zip st a b i k => cases e
  | enm a i k => cases e
  | key a i k => cases e
theorem items_cons {wk : Wk} {d : D} {xs : List D} (h : Hh) (e : wk.items = some (d :: xs)) : ∃ wk', wk.next h = some (some (d, wk')) ∧ wk'.items = some xs := by
  cases wk with
  | tup ys =>
    cases e
    exact ⟨_, rfl, rfl⟩
  | str cs =>
    cases cs with
    | nil => cases e
    | cons c r =>
      cases e
      exact ⟨_, rfl, rfl⟩
  | rng lo n =>
    cases n with
    | zero =>
      simp only [Wk.items, Option.some.injEq] at e
      simp at e
    | succ n =>
      simp only [Wk.items, Option.some.injEq, List.range_succ_eq_map, List.map_cons, List.cons.injEq] at e
      obtain ⟨e1, e2⟩ := e
      refine ⟨.rng (lo + 1) n, ?_, ?_⟩
      · simp only [Wk.next]
        rw [← e1]
        simp
      · rw [← e2]
        simp only [Wk.items, List.map_map, Option.some.injEq]
        apply List.map_congr_left
        intro k _
        simp only [Function.comp]
        congr 1
        push_cast
        omega
  | lst r i k => cases e
  | zip st a b i k => cases e
  | enm a i k => cases e
  | key a i k => cases e
/-- a comprehension: I by what is still to come and the heap, the list itself at r -/
theorem comp_wp {ev : Ev} {elt : CE} {own : List Nat} {tg : Tg} {cond : CEs} {env : Env} {wk : Wk} {xs : List D} {h : Hh} {Q : Unit → Hh → Prop} {E : XV → Hh → Prop} (ew : wk.items = some xs) (I : List D → List D → Hh → Prop) (h0 : I xs [] (h ++ [.lst []]))
    (at_ : ∀ ys acc h', I ys acc h' → h'[h.length]? = some (.lst acc) ∧ acc.length + ys.length ≤ sizeLine)
    (step : ∀ d ys acc h', I (d :: ys) acc h' → wp (turnM ev elt own tg cond env d h') (fun o h'' => match o with
      | some y => h''[h.length]? = some (.lst acc) ∧ I ys (acc ++ [y]) (h''.set h.length (.lst (acc ++ [y])))
      | none => I ys acc h'') (fun _ _ => False))
    (fin : ∀ acc h', I [] acc h' → Q () h') : wp (loopC (turnM ev elt own tg cond env) h.length wk.len wk (h ++ [.lst []])) Q E := by
  refine loopC_wp (fun n wk h' => ∃ ys acc, wk.items = some ys ∧ n = ys.length ∧ I ys acc h') ?_ _ _ _ ⟨xs, [], ew, items_len ew, h0⟩
  rintro n wk h' ⟨ys, acc, e, rfl, hI⟩
  cases ys with
  | nil =>
    rw [items_nil h' e]
    exact fin acc h' hI
  | cons d ys =>
    obtain ⟨wk', e1, e2⟩ := items_cons h' e
    rw [e1]
    refine ⟨ys.length, rfl, wp_mono (step d ys acc h' hI) (fun o h'' z => ?_) fun _ _ z => z⟩
    have hl := (at_ _ _ _ hI).2
    cases o with
    | none => exact ⟨ys, acc, e2, rfl, z⟩
    | some y =>
      refine ⟨acc, z.1, ?_, ys, acc ++ [y], e2, rfl, z.2⟩
      rw [List.length_cons] at hl
      omega
theorem set_last {h : Hh} {a b : MO} : (h ++ [a]).set h.length b = h ++ [b] := by
  rw [List.set_append_right _ _ (Nat.le_refl _)]
  simp
@[simp] theorem get_last {h : Hh} {a : MO} : (h ++ [a])[h.length]? = some a := by simp
/-- a comprehension whose turns leave the heap as it is -/
theorem comp_pure {ev : Ev} {elt : CE} {own : List Nat} {tg : Tg} {cond : CEs} {env : Env} {wk : Wk} {xs : List D} {h : Hh} (g : D → Option D) (ew : wk.items = some xs) (hl : xs.length ≤ sizeLine)
    (ht : ∀ x ∈ xs, ∀ acc, turnM ev elt own tg cond env x (h ++ [.lst acc]) = .ok (g x) (h ++ [.lst acc])) :
    loopC (turnM ev elt own tg cond env) h.length wk.len wk (h ++ [.lst []]) = .ok () (h ++ [.lst (xs.filterMap g)]) := by
  have key : wp (loopC (turnM ev elt own tg cond env) h.length wk.len wk (h ++ [.lst []])) (fun a h' => a = () ∧ h' = h ++ [.lst (xs.filterMap g)]) (fun _ _ => False) := by
    refine comp_wp ew (fun ys acc h' => h' = h ++ [.lst acc] ∧ (∃ zs, xs = zs ++ ys ∧ acc = zs.filterMap g)) ⟨rfl, [], rfl, rfl⟩ ?_ ?_ ?_
    · rintro ys acc h' ⟨rfl, zs, e, rfl⟩
      refine ⟨get_last, ?_⟩
      have h1 := List.length_filterMap_le g zs
      have h2 := congrArg List.length e
      rw [List.length_append] at h2
      omega
    · rintro d ys acc h' ⟨rfl, zs, e, rfl⟩
      rw [ht d (by rw [e]; simp)]
      cases eg : g d with
      | none => exact ⟨rfl, zs ++ [d], by rw [e]; simp, by simp [eg]⟩
      | some y => exact ⟨get_last, by rw [set_last], zs ++ [d], by rw [e]; simp, by simp [eg]⟩
    · rintro acc h' ⟨rfl, zs, e, rfl⟩
      refine ⟨rfl, ?_⟩
      rw [e, List.append_nil]
  cases e : loopC (turnM ev elt own tg cond env) h.length wk.len wk (h ++ [.lst []]) with
  | ok a h' =>
    rw [e] at key
    rw [key.2]
  | exc x h' =>
    rw [e] at key
    exact key.elim
  | bad =>
    rw [e] at key
    exact key.elim
end MX
namespace MX
open PySem L2
section
variable {ev : Ev} {env : Env} {h : Hh} {a b c : CE} {es : CEs}
@[simp] theorem es_star : evEs ev (.star a es) env h = rb (evE ev a env h) fun x h => rb (seqM x h) fun xs h => rb (evEs ev es env h) fun ys h => .ok (xs ++ ys) h := by
  simp only [evEs, bind_rb, M.pure]
  cases evE ev a env h <;> rfl
@[simp] theorem e_disp_int {i : Int} {d : D} : evE ev (.disp (.int i) d) env h = .ok (.ref h.length) (h ++ [.dct [(.int i, d)]]) := rfl
@[simp] theorem e_fld {f : Str} : evE ev (.fld f a) env h = rb (evE ev a env h) fun x h => fldD ev.pg f x h := by simp only [evE, bind_rb]
@[simp] theorem e_slc {l u : Bool} : evE ev (.slc a l b u c) env h = rb (evE ev a env h) fun x h => rb (evE ev b env h) fun i h => rb (partM l i h) fun i h => rb (evE ev c env h) fun j h => rb (partM u j h) fun j h => slcD x i j h := by
  simp only [evE, bind_rb]
  cases evE ev a env h with
  | ok x h1 =>
    simp only [rb_ok]
    cases evE ev b env h1 with
    | ok y h2 =>
      simp only [rb_ok]
      cases partM l y h2 with
      | ok z h3 =>
        simp only [rb_ok]
        cases evE ev c env h3 <;> rfl
      | exc x h => rfl
      | bad => rfl
    | exc x h => rfl
    | bad => rfl
  | exc x h => rfl
  | bad => rfl
@[simp] theorem e_lrng1 : evE ev (.lrng false a b) env h = rb (evE ev b env h) fun y h => lrngM (.int 0) y h := by simp only [evE, bind_rb]
@[simp] theorem e_lrng2 : evE ev (.lrng true a b) env h = rb (evE ev a env h) fun x h => rb (evE ev b env h) fun y h => lrngM x y h := by simp only [evE, bind_rb]
@[simp] theorem e_meth {pg : Pg} {n : Nat} {m : Str} {t : Option (M D)} {x : Option XV} : evE ⟨pg, tabs pg (n + 1), t, x⟩ (.meth m a es) env h = rb (evE ⟨pg, tabs pg (n + 1), t, x⟩ a env h) fun o h => rb (mthD pg m o h) fun i h => rb (evEs ⟨pg, tabs pg (n + 1), t, x⟩ es env h) fun xs h => cf pg n i (o :: xs) h := by
  simp only [evE, bind_rb] <;> rfl
@[simp] theorem e_make {pg : Pg} {n k : Nat} {t : Option (M D)} {x : Option XV} : evE ⟨pg, tabs pg (n + 2), t, x⟩ (.make k es) env h = rb (evEs ⟨pg, tabs pg (n + 2), t, x⟩ es env h) fun xs h => match pg.ini k with
    | some i => rb (cf pg n i (.ref h.length :: (xs ++ pg.dfl i)) (h ++ [.ins k []])) fun v h' => nonOr (.ref h.length) v h'
    | none => .bad := by
  simp only [evE, bind_rb, alloc, rb_ok]
  congr 1
  funext xs h
  simp only [tabs]
  cases pg.ini k with
  | none => rfl
  | some i => simp only [bind_rb] <;> rfl
@[simp] theorem s_setF {f : Str} : exS ev (.setF f a b) env h = rs (rb (evE ev b env h) fun v h => rb (evE ev a env h) fun x h => setFD ev.pg f x v h) env fun _ h => .nxt env h := by simp only [exS, lift_rs, bind_rb]
theorem s_aug {sub : Bool} {i : Nat} {x : Int} (e : env[i]? = some (some (.int x))) : exS ev (.aug sub i a) env h = rs (evE ev a env h) env fun d h => match d with
    | .int y => .nxt (env.set i (some (.int (if sub = true then x - y else x + y)))) h
    | _ => .bad := by
  simp only [exS, e, lift_rs] <;> rfl
end
/-! ### instances in the heap -/
theorem fld_ok {pg : Pg} {f : Str} {r c : Nat} {fs : List (Str × D)} {h : Hh} {d : D} (hr : h[r]? = some (.ins c fs)) (hi : pg.inst c = true) (hf : fs.lookup f = some d) : fldD pg f (.ref r) h = .ok d h := by
  simp only [fldD, hr, hi, hf, if_true]
theorem setF_ok {pg : Pg} {f : Str} {r c : Nat} {fs : List (Str × D)} {h : Hh} {v : D} (hr : h[r]? = some (.ins c fs)) (hi : pg.inst c = true) (hl : fs.length < 900) : setFD pg f (.ref r) v h = .ok () (h.set r (.ins c (putA f v fs))) := by
  simp only [setFD, hr, hi, hl, true_and, if_true]
theorem mth_ok {pg : Pg} {m : Str} {r c i : Nat} {fs : List (Str × D)} {h : Hh} (hr : h[r]? = some (.ins c fs)) (hi : pg.inst c = true) (hf : fs.lookup m = none) (hm : pg.mth c m = some i) : mthD pg m (.ref r) h = .ok i h := by
  simp only [mthD, hr, hi, hf, hm, true_and, if_true]
end MX
namespace MX
open PySem L2
/-! ### what a walker still gives, by the heap -/
def enmL : Nat → List D → List D
  | _, [] => []
  | i, x :: r => .tup [.int (i : Nat), x] :: enmL (i + 1) r
def Wk.itH (h : Hh) : Wk → Option (List D)
  | .tup xs => some xs
  | .str cs => some (cs.map sign1)
  | .rng lo n => some ((List.range n).map fun (k : Nat) => .int (lo + (k : Int)))
  | .lst r i k => match seqOf h (.ref r) with
    | some ys => if ys.length = i + k then some (ys.drop i) else none
    | none => none
  | .zip st a b i n => match seqOf h a, seqOf h b with
    | some xs, some ys => if min xs.length ys.length = i + n ∧ (st = true → xs.length = ys.length) then some (((xs.drop i).zip (ys.drop i)).map fun p => .tup [p.1, p.2]) else none
    | _, _ => none
  | .enm a i n => match seqOf h a with
    | some xs => if xs.length = i + n then some (enmL i (xs.drop i)) else none
    | none => none
  | .key r i k => match h[r]? with
    | some (.dct kvs) => if kvs.length = i + k then some ((kvs.drop i).map (·.1)) else none
    | _ => none
theorem enmL_len : ∀ (i : Nat) (xs : List D), (enmL i xs).length = xs.length
  | _, [] => rfl
  | i, x :: r => by
    show (enmL (i + 1) r).length + 1 = r.length + 1
    rw [enmL_len]
theorem itH_len {wk : Wk} {h : Hh} {xs : List D} (e : wk.itH h = some xs) : wk.len = xs.length := by
  cases wk with
  | tup ys =>
    cases e
    rfl
  | str cs =>
    cases e
    simp [Wk.len]
  | rng lo n =>
    cases e
    simp [Wk.len]
  | lst r i k =>
    simp only [Wk.itH] at e
    split at e
    · split at e
      · next hl =>
        cases e
        simp only [Wk.len, List.length_drop]
        omega
      · cases e
    · cases e
  | zip st a b i n =>
    simp only [Wk.itH] at e
    split at e
    · split at e
      · next hl =>
        cases e
        simp only [Wk.len, List.length_map, List.length_zip, List.length_drop]
        omega
      · cases e
    · cases e
  | enm a i n =>
    simp only [Wk.itH] at e
    split at e
    · split at e
      · next hl =>
        cases e
        simp only [Wk.len, enmL_len, List.length_drop]
        omega
      · cases e
    · cases e
  | key r i n =>
    simp only [Wk.itH] at e
    split at e
    · split at e
      · next hl =>
        cases e
        simp only [Wk.len, List.length_map, List.length_drop]
        omega
      · cases e
    · cases e
theorem itH_nil {wk : Wk} {h : Hh} (e : wk.itH h = some []) : wk.next h = some none := by
  have hl := itH_len e
  cases wk with
  | tup ys =>
    cases e
    rfl
  | str cs => exact items_nil h e
  | rng lo n => exact items_nil h e
  | lst r i k =>
    simp only [Wk.len, List.length_nil] at hl
    subst hl
    simp only [Wk.itH] at e
    split at e
    · next ys es =>
      split at e
      · next hz => simp only [Wk.next, es, hz, if_true]
      · cases e
    · cases e
  | zip st a b i n =>
    simp only [Wk.len, List.length_nil] at hl
    subst hl
    simp only [Wk.itH] at e
    split at e
    · next xs ys e1 e2 =>
      split at e
      · next hz =>
        simp only [Wk.next, e1, e2]
        rw [if_pos hz]
      · cases e
    · cases e
  | enm a i n =>
    simp only [Wk.len, List.length_nil] at hl
    subst hl
    simp only [Wk.itH] at e
    split at e
    · next xs es =>
      split at e
      · next hz => simp only [Wk.next, es, hz, if_true]
      · cases e
    · cases e
  | key r i n =>
    simp only [Wk.len, List.length_nil] at hl
    subst hl
    simp only [Wk.itH] at e
    split at e
    · next xs es =>
      split at e
      · next hz => simp only [Wk.next, es, hz, if_true]
      · cases e
    · cases e
theorem drop_cons {xs ys : List D} {i : Nat} {x : D} (e : xs.drop i = x :: ys) : xs[i]? = some x ∧ xs.drop (i + 1) = ys := by
  constructor
  · have := congrArg (·[0]?) e
    simpa using this
  · rw [← List.drop_drop, e] <;> rfl
theorem zip_drop1 (a b : List D) : (a.zip b).drop 1 = (a.drop 1).zip (b.drop 1) := by
  cases a <;> cases b <;> simp
theorem itH_cons {wk : Wk} {h : Hh} {d : D} {xs : List D} (e : wk.itH h = some (d :: xs)) : ∃ wk', wk.next h = some (some (d, wk')) ∧ ∀ h', (∀ ys, wk.itH h' = some ys → wk'.itH h' = some (ys.drop 1)) := by
  have hl := itH_len e
  cases wk with
  | tup ys =>
    cases e
    refine ⟨_, rfl, fun h' ys e => ?_⟩
    cases e
    rfl
  | str cs =>
    obtain ⟨wk', e1, e2⟩ := items_cons h (show Wk.items (.str cs) = some (d :: xs) from e)
    cases cs with
    | nil => cases e
    | cons c r =>
      refine ⟨.str r, ?_, fun h' ys e => ?_⟩
      · cases e
        rfl
      · cases e
        rfl
  | rng lo n =>
    cases n with
    | zero => simp [Wk.len] at hl
    | succ n =>
      refine ⟨.rng (lo + 1) n, ?_, fun h' ys e' => ?_⟩
      · simp only [Wk.itH, List.range_succ_eq_map, List.map_cons, Option.some.injEq, List.cons.injEq] at e
        simp only [Wk.next]
        rw [← e.1]
        simp
      · simp only [Wk.itH, List.range_succ_eq_map, List.map_cons, Option.some.injEq] at e' ⊢
        rw [← e', List.drop_succ_cons, List.drop_zero, List.map_map]
        apply List.map_congr_left
        intro k _
        simp only [Function.comp]
        congr 1
        push_cast
        omega
  | lst r i k =>
    cases k with
    | zero => simp [Wk.len] at hl
    | succ k =>
      simp only [Wk.itH] at e
      split at e
      · next ys es =>
        split at e
        · next hz =>
          simp only [Option.some.injEq] at e
          obtain ⟨a1, a2⟩ := drop_cons e
          refine ⟨.lst r (i + 1) k, ?_, fun h' ys' e' => ?_⟩
          · simp only [Wk.next, es]
            rw [if_pos hz]
            simp only [a1]
          · simp only [Wk.itH] at e' ⊢
            split at e'
            · next zs ez =>
              split at e'
              · next hz' =>
                cases e'
                rw [if_pos (by omega), List.drop_drop]
              · cases e'
            · cases e'
        · cases e
      · cases e
  | zip st a b i n =>
    cases n with
    | zero => simp [Wk.len] at hl
    | succ n =>
      simp only [Wk.itH] at e
      split at e
      · next ys zs e1 e2 =>
        split at e
        · next hz =>
          simp only [Option.some.injEq] at e
          have hy : i < ys.length := by omega
          have hzz : i < zs.length := by omega
          refine ⟨.zip st a b (i + 1) n, ?_, fun h' ys' e' => ?_⟩
          · simp only [Wk.next, e1, e2]
            rw [if_pos hz]
            rw [List.drop_eq_getElem_cons hy, List.drop_eq_getElem_cons hzz] at e
            simp only [List.zip_cons_cons, List.map_cons, List.cons.injEq] at e
            simp only [List.getElem?_eq_getElem hy, List.getElem?_eq_getElem hzz, e.1]
          · simp only [Wk.itH] at e' ⊢
            split at e'
            · next us vs f1 f2 =>
              split at e'
              · next hz' =>
                cases e'
                rw [if_pos ⟨by omega, hz'.2⟩, ← List.map_drop, zip_drop1, List.drop_drop, List.drop_drop]
              · cases e'
            · cases e'
        · cases e
      · cases e
  | enm a i n =>
    cases n with
    | zero => simp [Wk.len] at hl
    | succ n =>
      simp only [Wk.itH] at e
      split at e
      · next ys es =>
        split at e
        · next hz =>
          simp only [Option.some.injEq] at e
          have hy : i < ys.length := by omega
          refine ⟨.enm a (i + 1) n, ?_, fun h' ys' e' => ?_⟩
          · simp only [Wk.next, es]
            rw [if_pos hz]
            rw [List.drop_eq_getElem_cons hy] at e
            simp only [enmL, List.cons.injEq] at e
            simp only [List.getElem?_eq_getElem hy, e.1]
          · simp only [Wk.itH] at e' ⊢
            split at e'
            · next zs ez =>
              split at e'
              · next hz' =>
                cases e'
                have hz2 : i < zs.length := by omega
                rw [if_pos (by omega), List.drop_eq_getElem_cons hz2]
                rfl
              · cases e'
            · cases e'
        · cases e
      · cases e
  | key r i n =>
    cases n with
    | zero => simp [Wk.len] at hl
    | succ n =>
      simp only [Wk.itH] at e
      split at e
      · next ys es =>
        split at e
        · next hz =>
          simp only [Option.some.injEq] at e
          have hy : i < ys.length := by omega
          refine ⟨.key r (i + 1) n, ?_, fun h' ys' e' => ?_⟩
          · simp only [Wk.next, es]
            rw [if_pos hz]
            rw [List.drop_eq_getElem_cons hy, List.map_cons, List.cons.injEq] at e
            simp only [List.getElem?_eq_getElem hy, e.1]
          · simp only [Wk.itH] at e' ⊢
            split at e'
            · next us f1 =>
              split at e'
              · next hz' =>
                cases e'
                rw [if_pos (by omega), ← List.map_drop, List.drop_drop]
              · cases e'
            · cases e'
        · cases e
      · cases e

/-- a comprehension over what stands in the heap: its turns leave the heap as it is -/
theorem comp_heap {ev : Ev} {elt : CE} {own : List Nat} {tg : Tg} {cond : CEs} {env : Env} {wk : Wk} {xs : List D} {h : Hh} (g : D → Option D) (ew : ∀ acc, wk.itH (h ++ [.lst acc]) = some xs) (hl : xs.length ≤ sizeLine)
    (ht : ∀ x ∈ xs, ∀ acc, turnM ev elt own tg cond env x (h ++ [.lst acc]) = .ok (g x) (h ++ [.lst acc])) :
    loopC (turnM ev elt own tg cond env) h.length wk.len wk (h ++ [.lst []]) = .ok () (h ++ [.lst (xs.filterMap g)]) := by
  have key : wp (loopC (turnM ev elt own tg cond env) h.length wk.len wk (h ++ [.lst []])) (fun a h' => a = () ∧ h' = h ++ [.lst (xs.filterMap g)]) (fun _ _ => False) := by
    refine loopC_wp (fun n wk' h' => ∃ zs ys acc, xs = zs ++ ys ∧ n = ys.length ∧ acc = zs.filterMap g ∧ h' = h ++ [.lst acc] ∧ ∀ acc, wk'.itH (h ++ [.lst acc]) = some ys) ?_ _ _ _ ⟨[], xs, [], rfl, itH_len (ew []), rfl, rfl, ew⟩
    rintro n wk' h' ⟨zs, ys, acc, e1, rfl, e2, rfl, e3⟩
    cases ys with
    | nil =>
      rw [itH_nil (e3 acc)]
      refine ⟨rfl, ?_⟩
      rw [e1, e2, List.append_nil]
    | cons d ys =>
      obtain ⟨wk2, f1, f2⟩ := itH_cons (e3 acc)
      rw [f1]
      refine ⟨ys.length, rfl, ?_⟩
      rw [ht d (by rw [e1]; simp)]
      have lz : acc.length < sizeLine := by
        have h1 := List.length_filterMap_le g zs
        rw [← e2] at h1
        have h2 := congrArg List.length e1
        rw [List.length_append, List.length_cons] at h2
        omega
      have e4 : ∀ acc, wk2.itH (h ++ [.lst acc]) = some ys := fun acc => f2 _ _ (e3 acc)
      cases eg : g d with
      | none => exact ⟨zs ++ [d], ys, acc, by rw [e1]; simp, rfl, by rw [e2]; simp [eg], rfl, e4⟩
      | some y => exact ⟨acc, get_last, lz, zs ++ [d], ys, acc ++ [y], by rw [e1]; simp, rfl, by rw [e2]; simp [eg], by rw [set_last], e4⟩
  cases e : loopC (turnM ev elt own tg cond env) h.length wk.len wk (h ++ [.lst []]) with
  | ok a h' =>
    rw [e] at key
    rw [key.2]
  | exc x h' =>
    rw [e] at key
    exact key.elim
  | bad =>
    rw [e] at key
    exact key.elim
/-- what is read stays where lists are laid behind -/
theorem seqOf_app {h : Hh} {t : List MO} {a : D} {xs : List D} (e : seqOf h a = some xs) : seqOf (h ++ t) a = some xs := by
  cases a with
  | ref r =>
    simp only [seqOf] at e ⊢
    cases hr : h[r]? with
    | none =>
      rw [hr] at e
      cases e
    | some o =>
      rw [List.getElem?_append_left (List.getElem?_eq_some_iff.mp hr).1, hr]
      rw [hr] at e
      exact e
  | _ => exact e
theorem it_lst {h : Hh} {r : Nat} {xs : List D} (e : seqOf h (.ref r) = some xs) : (Wk.lst r 0 xs.length).itH h = some xs := by
  simp only [Wk.itH, e]
  rw [if_pos (by omega), List.drop_zero]
theorem it_zip {h : Hh} {a b : D} {xs ys : List D} {st : Bool} (e1 : seqOf h a = some xs) (e2 : seqOf h b = some ys) (hl : xs.length = ys.length) : (Wk.zip st a b 0 (min xs.length ys.length)).itH h = some ((xs.zip ys).map fun p => .tup [p.1, p.2]) := by
  simp only [Wk.itH, e1, e2]
  rw [if_pos ⟨by omega, fun _ => hl⟩, List.drop_zero, List.drop_zero]
theorem it_enm {h : Hh} {a : D} {xs : List D} (e : seqOf h a = some xs) : (Wk.enm a 0 xs.length).itH h = some (enmL 0 xs) := by
  simp only [Wk.itH, e]
  rw [if_pos (by omega), List.drop_zero]
end MX
namespace MX
open PySem PySem.Builtin.Str L2
open PyProof.Rows (int_text_len_1921)
/-! ### what repr shows -/
def tx (x : Str) : Bool := x.cps.all (· < 0x110000)
theorem tx_lay (x : Str) : PyData.canLay0 (.str x) = tx x := rfl
theorem tx_app {a b : Str} : tx (a ++ b) = (tx a && tx b) := by
  show (a.cps ++ b.cps).all _ = _
  rw [Array.all_append]
  rfl
theorem tx_iff {x : Str} : tx x = true ↔ ∀ c ∈ x.cps.toList, c < 0x110000 := by
  unfold tx
  rw [← Array.all_toList, List.all_eq_true]
  simp only [decide_eq_true_eq]
theorem tx_of (s : String) : tx (Str.ofString s) = true := by
  rw [Str.ofString_eq_toList, tx_iff]
  intro c hc
  simp only [List.mem_map] at hc
  obtain ⟨k, _, rfl⟩ := hc
  rcases k.valid with h | ⟨_, h⟩
  · exact Nat.lt_trans h (by decide)
  · exact h
theorem len_app {a b : Str} : (a ++ b).length = a.length + b.length := strLen_append a b
theorem tx_from : ∀ (ts : List Str) (k : Nat) (acc : Str), tx acc = true → (∀ t ∈ ts, tx t = true) → tx (textFrom k acc ts) = true
  | [], _, _, h, _ => h
  | t :: r, k, acc, h, ht => by
    refine tx_from r (k + 1) _ ?_ fun t h => ht t (List.mem_cons_of_mem _ h)
    rw [tx_app, tx_app, h, ht t List.mem_cons_self]
    split <;> simp [tx_of]
theorem len_from : ∀ (ts : List Str) (k : Nat) (acc : Str), (textFrom k acc ts).length ≤ acc.length + (ts.map fun t => t.length + 2).sum
  | [], _, acc => by simp [textFrom]
  | t :: r, k, acc => by
    have ih := len_from r (k + 1) (acc ++ (if k > 0 then ", " else "" : String) ++ t)
    have e : (acc ++ (if k > 0 then ", " else "" : String) ++ t).length ≤ acc.length + 2 + t.length := by
      rw [len_app, len_app]
      split
      · have : (Str.ofString ", ").length = 2 := rfl
        omega
      · have : (Str.ofString "").length = 0 := rfl
        omega
    simp only [textFrom, List.map_cons, List.sum_cons]
    omega
theorem tx_join : ∀ (ts : List Str), (∀ t ∈ ts, tx t = true) → tx (Str.join (Str.ofString ", ") ts) = true
  | [], _ => by decide +kernel
  | [x], h => h x (by simp)
  | x :: y :: r, h => by
    show tx (x ++ Str.ofString ", " ++ Str.join (Str.ofString ", ") (y :: r)) = true
    rw [tx_app, tx_app, h x (by simp), tx_of, tx_join (y :: r) fun t ht => h t (List.mem_cons_of_mem _ ht)]
    rfl
theorem len_join : ∀ (ts : List Str), (Str.join (Str.ofString ", ") ts).length ≤ (ts.map fun t => t.length + 2).sum
  | [] => by
    show (Str.empty).length ≤ _
    exact Nat.zero_le _
  | [x] => by
    show x.length ≤ _
    simp
  | x :: y :: r => by
    show (x ++ Str.ofString ", " ++ Str.join (Str.ofString ", ") (y :: r)).length ≤ _
    have ih := len_join (y :: r)
    have e : (Str.ofString ", ").length = 2 := rfl
    rw [len_app, len_app, e, List.map_cons, List.sum_cons]
    omega
theorem hex_ok (c : Nat) : ∀ k ∈ (Nat.toDigits 16 c).map Char.toNat, k < 0x110000 := by
  intro k hk
  obtain ⟨d, _, rfl⟩ := List.mem_map.mp hk
  rcases d.valid with h | ⟨_, h⟩
  · exact Nat.lt_trans h (by decide)
  · exact h
theorem char_ok {q c : Nat} (hq : q < 0x110000) (hc : c < 0x110000) : ∀ k ∈ reprChar q c, k < 0x110000 := by
  intro k hk
  have hx : ∀ w, ∀ k ∈ (List.replicate (w - ((Nat.toDigits 16 c).map Char.toNat).length) 48 ++ (Nat.toDigits 16 c).map Char.toNat), k < 0x110000 := fun w k h => by
    rcases List.mem_append.mp h with h | h
    · rw [(List.mem_replicate.mp h).2]
      decide
    · exact hex_ok c k h
  unfold reprChar at hk
  dsimp only at hk
  repeat' split at hk
  all_goals first
    | (simp only [List.mem_cons, List.not_mem_nil, or_false] at hk; omega)
    | (rcases List.mem_append.mp hk with h | h
       · simp only [List.mem_cons, List.not_mem_nil, or_false] at h
         omega
       · exact hx _ k h)
theorem fold_ok {q : Nat} (hq : q < 0x110000) : ∀ (l : List Nat) (acc : Array Nat), (∀ c ∈ l, c < 0x110000) → (∀ c ∈ acc.toList, c < 0x110000) → ∀ c ∈ (l.foldl (fun out c => out ++ (reprChar q c).toArray) acc).toList, c < 0x110000
  | [], acc, _, h => h
  | c :: r, acc, hl, h => by
    rw [List.foldl_cons]
    refine fold_ok hq r _ (fun d hd => hl d (List.mem_cons_of_mem _ hd)) ?_
    intro d hd
    rw [Array.toList_append] at hd
    rcases List.mem_append.mp hd with z | z
    · exact h d z
    · exact char_ok hq (hl c List.mem_cons_self) d (by simpa using z)
theorem tx_repr {x : Str} (h : tx x = true) : tx (reprText x) = true := by
  rw [tx_iff] at h ⊢
  have hq : reprQuote x < 0x110000 := by
    unfold reprQuote
    split <;> decide
  intro c hc
  unfold reprText at hc
  rw [Array.toList_push, ← Array.foldl_toList] at hc
  rcases List.mem_append.mp hc with z | z
  · refine fold_ok hq _ _ h ?_ c z
    intro d hd
    have : d = reprQuote x := by simpa using hd
    rw [this]
    exact hq
  · have : c = reprQuote x := by simpa using z
    rw [this]
    exact hq
mutual
/-- data that can be shown and compared: no long ints, plain texts, no dict but an empty one -/
def goodP : PyData → Bool
  | .none => true
  | .bool _ => true
  | .int i => decide (i.natAbs.log2 < 1920)
  | .str x => tx x
  | .list xs => goodPs xs
  | .tuple xs => goodPs xs
  | .dict kvs => goodKv kvs
def goodPs : List PyData → Bool
  | [] => true
  | p :: r => goodP p && goodPs r
def goodKv : List (PyData × PyData) → Bool
  | [] => true
  | (k, v) :: r => goodP k && goodP v && goodKv r
end
mutual
/-- how long the text is at most -/
def szP : PyData → Nat
  | .none => 4
  | .bool _ => 5
  | .int _ => 1921
  | .str x => 10 * x.length + 2
  | .list xs => szPs xs + 2
  | .tuple xs => szPs xs + 3
  | .dict kvs => szKv kvs + 2
def szPs : List PyData → Nat
  | [] => 0
  | p :: r => szP p + 2 + szPs r
def szKv : List (PyData × PyData) → Nat
  | [] => 0
  | (k, v) :: r => szP k + 2 + szP v + 2 + szKv r
end
mutual
theorem good_show : ∀ p : PyData, goodP p = true → tx p.shown = true ∧ p.shown.length ≤ szP p ∧ p.showable = true
  | .none, _ => ⟨tx_of _, Nat.le_refl _, rfl⟩
  | .bool b, _ => by
    cases b
    · exact ⟨tx_of "False", Nat.le_refl _, rfl⟩
    · exact ⟨tx_of "True", by decide, rfl⟩
  | .int i, h => by
    simp only [goodP, decide_eq_true_eq] at h
    refine ⟨tx_of _, PyProof.Rows.int_text_len_1921 h, ?_⟩
    simp only [PyData.showable, decide_eq_true_eq]
    exact h
  | .str x, h => by
    simp only [goodP] at h
    refine ⟨tx_repr h, StrLaws.reprText_len x (fun c hc => ?_), rfl⟩
    have := tx_iff.mp h c hc
    exact Nat.lt_trans this (by decide)
  | .list xs, h => by
    simp only [goodP] at h
    obtain ⟨h1, h2, h3⟩ := good_shows xs h
    refine ⟨?_, ?_, h3⟩
    · show tx (textFrom 0 (Str.ofString "[") (PyData.shownAll xs) ++ Str.ofString "]") = true
      rw [tx_app, tx_from _ _ _ (tx_of _) h1, tx_of]
      rfl
    · show (textFrom 0 (Str.ofString "[") (PyData.shownAll xs) ++ Str.ofString "]").length ≤ szPs xs + 2
      have := len_from (PyData.shownAll xs) 0 (Str.ofString "[")
      have e1 : (Str.ofString "[").length = 1 := rfl
      have e2 : (Str.ofString "]").length = 1 := rfl
      rw [len_app]
      omega
  | .tuple xs, h => by
    simp only [goodP] at h
    obtain ⟨h1, h2, h3⟩ := good_shows xs h
    refine ⟨?_, ?_, h3⟩
    · show tx ((Str.ofString "(" ++ Str.join (Str.ofString ", ") (PyData.shownAll xs)) ++ (Str.ofString (if (PyData.shownAll xs).length == 1 then ",)" else ")"))) = true
      rw [tx_app, tx_app, tx_join _ h1, tx_of, tx_of]
      rfl
    · show ((Str.ofString "(" ++ Str.join (Str.ofString ", ") (PyData.shownAll xs)) ++ (Str.ofString (if (PyData.shownAll xs).length == 1 then ",)" else ")"))).length ≤ szPs xs + 3
      have := len_join (PyData.shownAll xs)
      have e1 : (Str.ofString "(").length = 1 := rfl
      have e2 : (Str.ofString (if (PyData.shownAll xs).length == 1 then ",)" else ")")).length ≤ 2 := by
        split <;> decide
      rw [len_app, len_app]
      omega
  | .dict kvs, h => by
    simp only [goodP] at h
    obtain ⟨h1, h2, h3⟩ := good_kv kvs h
    refine ⟨?_, ?_, by simpa only [PyData.showable] using h3⟩
    · simp only [PyData.shown]
      show tx (Str.ofString "{" ++ Str.join (Str.ofString ", ") (PyData.shownKv kvs) ++ Str.ofString "}") = true
      rw [tx_app, tx_app, tx_join _ h1, tx_of, tx_of]
      rfl
    · simp only [PyData.shown]
      show (Str.ofString "{" ++ Str.join (Str.ofString ", ") (PyData.shownKv kvs) ++ Str.ofString "}").length ≤ szKv kvs + 2
      have := len_join (PyData.shownKv kvs)
      have e1 : (Str.ofString "{").length = 1 := rfl
      have e2 : (Str.ofString "}").length = 1 := rfl
      rw [len_app, len_app]
      omega
theorem good_shows : ∀ ps : List PyData, goodPs ps = true → (∀ t ∈ PyData.shownAll ps, tx t = true) ∧ ((PyData.shownAll ps).map fun t => t.length + 2).sum ≤ szPs ps ∧ PyData.showableAll ps = true
  | [], _ => ⟨fun t h => (by cases h), Nat.le_refl _, rfl⟩
  | p :: r, h => by
    simp only [goodPs, Bool.and_eq_true] at h
    obtain ⟨a1, a2, a3⟩ := good_show p h.1
    obtain ⟨b1, b2, b3⟩ := good_shows r h.2
    refine ⟨fun t ht => ?_, ?_, ?_⟩
    · rcases List.mem_cons.mp ht with e | e
      · rw [e]
        exact a1
      · exact b1 t e
    · simp only [PyData.shownAll, List.map_cons, List.sum_cons, szPs]
      omega
    · simp only [PyData.showableAll, a3, b3, Bool.and_self]
theorem good_kv : ∀ kvs : List (PyData × PyData), goodKv kvs = true → (∀ t ∈ PyData.shownKv kvs, tx t = true) ∧ ((PyData.shownKv kvs).map fun t => t.length + 2).sum ≤ szKv kvs ∧ PyData.showableKv kvs = true
  | [], _ => ⟨fun t h => (by cases h), Nat.le_refl _, rfl⟩
  | (k, v) :: r, h => by
    simp only [goodKv, Bool.and_eq_true] at h
    obtain ⟨a1, a2, a3⟩ := good_show k h.1.1
    obtain ⟨c1, c2, c3⟩ := good_show v h.1.2
    obtain ⟨b1, b2, b3⟩ := good_kv r h.2
    have e1 : (Str.ofString ": ").length = 2 := rfl
    refine ⟨fun t ht => ?_, ?_, ?_⟩
    · simp only [PyData.shownKv] at ht
      rcases List.mem_cons.mp ht with e | e
      · rw [e]
        show tx (PyData.shown k ++ Str.ofString ": " ++ PyData.shown v) = true
        rw [tx_app, tx_app, a1, c1, tx_of]
        rfl
      · exact b1 t e
    · simp only [PyData.shownKv, List.map_cons, List.sum_cons, szKv]
      have : (PyData.shown k ++ (": " : Str) ++ PyData.shown v).length = (PyData.shown k).length + 2 + (PyData.shown v).length := by
        rw [len_app, len_app]
        rfl
      omega
    · simp only [PyData.showableKv, a3, b3, c3, Bool.and_self]
end
end MX
namespace MX
open PySem L2
theorem loop_acc {turn : D → M (Option D)} {wk : Wk} {xs a0 : List D} {h : Hh} (g : D → Option D) (ew : ∀ acc, wk.itH (h ++ [.lst acc]) = some xs) (hl : a0.length + xs.length ≤ sizeLine)
    (ht : ∀ x ∈ xs, ∀ acc, turn x (h ++ [.lst acc]) = .ok (g x) (h ++ [.lst acc])) : loopC turn h.length wk.len wk (h ++ [.lst a0]) = .ok () (h ++ [.lst (a0 ++ xs.filterMap g)]) := by
  have key : wp (loopC turn h.length wk.len wk (h ++ [.lst a0])) (fun a h' => a = () ∧ h' = h ++ [.lst (a0 ++ xs.filterMap g)]) (fun _ _ => False) := by
    refine loopC_wp (fun n wk' h' => ∃ zs ys acc, xs = zs ++ ys ∧ n = ys.length ∧ acc = a0 ++ zs.filterMap g ∧ h' = h ++ [.lst acc] ∧ ∀ acc, wk'.itH (h ++ [.lst acc]) = some ys) ?_ _ _ _ ⟨[], xs, a0, rfl, itH_len (ew []), by simp, rfl, ew⟩
    rintro n wk' h' ⟨zs, ys, acc, e1, rfl, e2, rfl, e3⟩
    cases ys with
    | nil =>
      rw [itH_nil (e3 acc)]
      refine ⟨rfl, ?_⟩
      rw [e1, e2, List.append_nil]
    | cons d ys =>
      obtain ⟨wk2, f1, f2⟩ := itH_cons (e3 acc)
      rw [f1]
      refine ⟨ys.length, rfl, ?_⟩
      rw [ht d (by rw [e1]; simp)]
      have lz : acc.length < sizeLine := by
        have h1 := List.length_filterMap_le g zs
        have h2 := congrArg List.length e1
        rw [List.length_append, List.length_cons] at h2
        rw [e2, List.length_append]
        omega
      have e4 : ∀ acc, wk2.itH (h ++ [.lst acc]) = some ys := fun acc => f2 _ _ (e3 acc)
      cases eg : g d with
      | none => exact ⟨zs ++ [d], ys, acc, by rw [e1]; simp, rfl, by rw [e2]; simp [eg], rfl, e4⟩
      | some y => exact ⟨acc, get_last, lz, zs ++ [d], ys, acc ++ [y], by rw [e1]; simp, rfl, by rw [e2]; simp [eg], by rw [set_last], e4⟩
  cases e : loopC turn h.length wk.len wk (h ++ [.lst a0]) with
  | ok a h' =>
    rw [e] at key
    rw [key.2]
  | exc x h' =>
    rw [e] at key
    exact key.elim
  | bad =>
    rw [e] at key
    exact key.elim
theorem loop_flat {turn : D → M (Option D)} {wk : Wk} {xs a0 : List D} {h : Hh} (f : D → List D) (ew : ∀ acc, wk.itH (h ++ [.lst acc]) = some xs) (hl : a0.length + (xs.flatMap f).length ≤ sizeLine)
    (ht : ∀ x ∈ xs, ∀ acc, acc.length + (f x).length ≤ sizeLine → turn x (h ++ [.lst acc]) = .ok none (h ++ [.lst (acc ++ f x)])) : loopC turn h.length wk.len wk (h ++ [.lst a0]) = .ok () (h ++ [.lst (a0 ++ xs.flatMap f)]) := by
  have key : wp (loopC turn h.length wk.len wk (h ++ [.lst a0])) (fun a h' => a = () ∧ h' = h ++ [.lst (a0 ++ xs.flatMap f)]) (fun _ _ => False) := by
    refine loopC_wp (fun n wk' h' => ∃ zs ys acc, xs = zs ++ ys ∧ n = ys.length ∧ acc = a0 ++ zs.flatMap f ∧ h' = h ++ [.lst acc] ∧ ∀ acc, wk'.itH (h ++ [.lst acc]) = some ys) ?_ _ _ _ ⟨[], xs, a0, rfl, itH_len (ew []), by simp, rfl, ew⟩
    rintro n wk' h' ⟨zs, ys, acc, e1, rfl, e2, rfl, e3⟩
    cases ys with
    | nil =>
      rw [itH_nil (e3 acc)]
      refine ⟨rfl, ?_⟩
      rw [e1, e2, List.append_nil]
    | cons d ys =>
      obtain ⟨wk2, f1, f2⟩ := itH_cons (e3 acc)
      rw [f1]
      refine ⟨ys.length, rfl, ?_⟩
      have lz : acc.length + (f d).length ≤ sizeLine := by
        rw [e2, List.length_append]
        rw [e1, List.flatMap_append, List.flatMap_cons, List.length_append, List.length_append] at hl
        omega
      rw [ht d (by rw [e1]; simp) acc lz]
      exact ⟨zs ++ [d], ys, acc ++ f d, by rw [e1]; simp, rfl, by rw [e2]; simp [List.append_assoc], rfl, fun acc => f2 _ _ (e3 acc)⟩
  cases e : loopC turn h.length wk.len wk (h ++ [.lst a0]) with
  | ok a h' =>
    rw [e] at key
    rw [key.2]
  | exc x h' =>
    rw [e] at key
    exact key.elim
  | bad =>
    rw [e] at key
    exact key.elim
section
variable {ev : Ev} {env env' : Env} {h : Hh}
theorem e_comp2 {elt : CE} {own own1 : List Nat} {tg tg1 : Tg} {it it1 : It} {cond cond1 : CEs} : evE ev (.comp2 elt own own1 tg it cond tg1 it1 cond1) env h = rb (evI ev it env h) fun wk h => rb (loopC (turn2G (fun env2 => M.bind (evI ev it1 env2) fun wk1 => loopC (turnG (evE ev elt) own1 tg1 (evEs ev cond1) env2) h.length wk1.len wk1) own tg (evEs ev cond) env) h.length wk.len wk (h ++ [.lst []])) fun _ h' => .ok (.ref h.length) h' := by
  simp only [evE, compG, alloc, bind_rb, rb_ok, M.pure]
theorem turn2_eq {inner : Env → M Unit} {own : List Nat} {tg : Tg} {v : D} (e : asgT tg v (wipeE env own) = some env') : turn2G inner own tg (evEs ev .nil) env v h = nx (rb (inner env' h) fun _ h => .ok none h) := by
  unfold turn2G
  rw [noX_nx, e]
  simp only [bind_rb, condG, es_nil, rb_ok, M.pure]
theorem turnG_eq {elt : Env → M D} {own : List Nat} {tg : Tg} {v : D} (e : asgT tg v (wipeE env own) = some env') : turnG elt own tg (evEs ev .nil) env v h = nx (rb (elt env' h) fun y h => .ok (some y) h) := by
  unfold turnG
  rw [noX_nx, e]
  simp only [bind_rb, condG, es_nil, rb_ok, M.pure]
@[simp] theorem e_isi' {t : Ty} {a : CE} {x : D} {b : Bool} (e : evE ev a env h = .ok x h) (i : isTy h t x = some b) : evE ev (.isi a t) env h = .ok (.bl b) h := by
  rw [e_isi, e, rb_ok, i]
theorem all_is {r : Nat} {bs : List Bool} (e : h[r]? = some (.lst (bs.map .bl))) : btD .all [.ref r] h = .ok (.bl (bs.all id)) h := by
  have b : ∀ bs : List Bool, bools (bs.map .bl) = some bs := by
    intro bs
    induction bs with
    | nil => rfl
    | cons b r ih => simp only [List.map_cons, bools, ih, Option.map_some]
  simp only [btD, bt1, e, b]
end
end MX
namespace K00
open PySem L2 MX
section
variable {n : Nat} {h : Hh} {ev : Ev} {env : MX.Env} {a : CE} {t c f : Str} {xs : List D} {b : Bool}
@[simp] theorem e_isx : evE ev (.isx a t) env h = rb (evE ev a env h) fun x h => isxD ev.pg t x h := by simp only [evE, bind_rb]
theorem isx_ok (e : pg.isb c t = some b) : isxD pg t (.exn c f xs) h = .ok (.bl b) h := by simp only [isxD, e]
theorem ga {h l : List MO} {k : Nat} : (h ++ l)[h.length + k]? = l[k]? := by
  rw [List.getElem?_append_right (Nat.le_add_right _ _), Nat.add_sub_cancel_left]
theorem ga0 {h l : List MO} : (h ++ l)[h.length]? = l[0]? := ga (k := 0)
theorem z (k : Nat) (hk : k ≤ 1000) : k ≤ sizeLine := by rw [sizeLine_eq]; omega
theorem add_l {h : Hh} {r q : Nat} {xs ys : List D} (e1 : h[r]? = some (.lst xs)) (e2 : h[q]? = some (.lst ys)) (hl : xs.length + ys.length ≤ 1000) : binD .add (.ref r) (.ref q) h = .ok (.ref h.length) (h ++ [.lst (xs ++ ys)]) := by
  simp only [binD, addD, e1, e2, if_pos (z _ hl), MX.alloc]
def T (c t : Str) : Bool := (pg.isb c t).getD false
def nm14 : List Str := [Str.ofString "InvalidSchema", Str.ofString "InvalidRow", Str.ofString "InvalidStore", Str.ofString "InvalidQuestion", Str.ofString "InvalidPattern", Str.ofString "InvalidOperation", Str.ofString "InvalidEdit", Str.ofString "ParseError", Str.ofString "InvalidCommand", Str.ofString "InvalidNumber", Str.ofString "UnknownName", Str.ofString "TooMany", Str.ofString "Missing", Str.ofString "NothingToUndo"]
def nm7 : List Str := [Str.ofString "DearError", Str.ofString "ValueError", Str.ofString "IndexError", Str.ofString "KeyError", Str.ofString "OverflowError", Str.ofString "LookupError", Str.ofString "ArithmeticError"]
theorem all_isb : ∀ c ∈ clsN, ∀ t ∈ nm14 ++ nm7, pg.isb c t = some (T c t) := by decide +kernel
theorem lkT (hc : c ∈ clsN) (ht : t ∈ nm14 ++ nm7) : isxD pg t (.exn c f xs) h = .ok (.bl (T c t)) h := isx_ok (all_isb c hc t ht)
/-- grown at the end -/
structure Gr (h h' : Hh) : Prop where
  ex : ∃ l, h' = h ++ l
theorem Gr.refl (h : Hh) : Gr h h := ⟨[], by simp⟩
theorem Gr.trans {h h1 h2 : Hh} (a : Gr h h1) (b : Gr h1 h2) : Gr h h2 := by
  obtain ⟨l, rfl⟩ := a.ex
  obtain ⟨m, rfl⟩ := b.ex
  exact ⟨l ++ m, by simp⟩
theorem Gr.app (h l : Hh) : Gr h (h ++ l) := ⟨l, rfl⟩
theorem Gr.get {h h' : Hh} {r : Nat} {o : MO} (g : Gr h h') (e : h[r]? = some o) : h'[r]? = some o := by
  obtain ⟨l, rfl⟩ := g.ex
  rw [List.getElem?_append_left (List.getElem?_eq_some_iff.mp e).1]
  exact e
theorem addR {h : List MO} {xs ys : List D} : binD .add (.ref (List.length h)) (.ref (List.length (h ++ [.lst xs]))) (h ++ [.lst xs] ++ [.lst ys]) = if xs.length + ys.length ≤ sizeLine then .ok (.ref (List.length (h ++ [.lst xs] ++ [.lst ys]))) (h ++ [.lst xs] ++ [.lst ys] ++ [.lst (xs ++ ys)]) else .bad := by
  have e1 : (h ++ [MO.lst xs] ++ [MO.lst ys])[List.length h]? = some (.lst xs) := by
    rw [List.append_assoc, ga0]
    rfl
  have e2 : (h ++ [MO.lst xs] ++ [MO.lst ys])[List.length (h ++ [MO.lst xs])]? = some (.lst ys) := by
    rw [ga0]
    rfl
  simp only [binD, addD, e1, e2, MX.alloc]
theorem flags_ok (hc : c ∈ clsN) : ∃ h' r, cf pg n 19 [.exn c f xs] h = .ok (.ref r) h' ∧ h'[r]? = some (.lst ((nm14.map (T c)).map .bl)) ∧ Gr h h' := by
  have q : ∀ t (ht : t ∈ nm14 ++ nm7) (H : Hh), isxD pg t (.exn c f xs) H = .ok (.bl (T c t)) H := fun t ht H => lkT hc ht
  have q1 := q (Str.ofString "InvalidSchema") (by decide +kernel)
  have q2 := q (Str.ofString "InvalidRow") (by decide +kernel)
  have q3 := q (Str.ofString "InvalidStore") (by decide +kernel)
  have q4 := q (Str.ofString "InvalidQuestion") (by decide +kernel)
  have q5 := q (Str.ofString "InvalidPattern") (by decide +kernel)
  have q6 := q (Str.ofString "InvalidOperation") (by decide +kernel)
  have q7 := q (Str.ofString "InvalidEdit") (by decide +kernel)
  have q8 := q (Str.ofString "ParseError") (by decide +kernel)
  have q9 := q (Str.ofString "InvalidCommand") (by decide +kernel)
  have q10 := q (Str.ofString "InvalidNumber") (by decide +kernel)
  have q11 := q (Str.ofString "UnknownName") (by decide +kernel)
  have q12 := q (Str.ofString "TooMany") (by decide +kernel)
  have q13 := q (Str.ofString "Missing") (by decide +kernel)
  have q14 := q (Str.ofString "NothingToUndo") (by decide +kernel)
  have z1 := z 1 (by decide)
  have z2 := z 2 (by decide)
  have z3 := z 3 (by decide)
  have z5 := z 5 (by decide)
  have z8 := z 8 (by decide)
  have z11 := z 11 (by decide)
  have z14 := z 14 (by decide)
  rw [cf_eq (fd := d19) rfl rfl rfl]
  generalize T c = g at *
  simp only [d19, b19, ss_cons, ss_nil, s_asg, s_ret, e_lst, es_cons, es_nil, e_isx, e_slot, e_bin, List.map_cons, List.map_nil, List.length_cons, List.length_nil, Nat.zero_add, Nat.reduceAdd, Nat.reduceSub, List.replicate, List.cons_append, List.nil_append, List.getElem?_cons_zero, List.getElem?_cons_succ, List.set_cons_zero, List.set_cons_succ, slotR_some, rb_ok, rs_ok, sb_nxt, ret_ret, q1, q2, q3, q4, q5, q6, q7, q8, q9, q10, q11, q12, q13, q14, if_pos z1, if_pos z2, if_pos z3, addR, if_pos z5, if_pos z8, if_pos z11, if_pos z14]
  refine ⟨_, _, rfl, ?_, ?_⟩
  · rw [ga0]
    rfl
  · simp only [List.append_assoc]
    exact .app _ _
theorem bases_ok (hc : c ∈ clsN) : ∃ h' r, cf pg n 20 [.exn c f xs] h = .ok (.ref r) h' ∧ h'[r]? = some (.lst ((nm7.map (T c)).map .bl)) ∧ Gr h h' := by
  have q : ∀ t (ht : t ∈ nm14 ++ nm7) (H : Hh), isxD pg t (.exn c f xs) H = .ok (.bl (T c t)) H := fun t ht H => lkT hc ht
  have q1 := q (Str.ofString "DearError") (by decide +kernel)
  have q2 := q (Str.ofString "ValueError") (by decide +kernel)
  have q3 := q (Str.ofString "IndexError") (by decide +kernel)
  have q4 := q (Str.ofString "KeyError") (by decide +kernel)
  have q5 := q (Str.ofString "OverflowError") (by decide +kernel)
  have q6 := q (Str.ofString "LookupError") (by decide +kernel)
  have q7 := q (Str.ofString "ArithmeticError") (by decide +kernel)
  have z1 := z 1 (by decide)
  have z3 := z 3 (by decide)
  have z6 := z 6 (by decide)
  have z7 := z 7 (by decide)
  rw [cf_eq (fd := d20) rfl rfl rfl]
  generalize T c = g at *
  simp only [d20, b20, ss_cons, ss_nil, s_asg, s_ret, e_lst, es_cons, es_nil, e_isx, e_slot, e_bin, List.map_cons, List.map_nil, List.length_cons, List.length_nil, Nat.zero_add, Nat.reduceAdd, Nat.reduceSub, List.replicate, List.cons_append, List.nil_append, List.getElem?_cons_zero, List.getElem?_cons_succ, List.set_cons_zero, List.set_cons_succ, slotR_some, rb_ok, rs_ok, sb_nxt, ret_ret, q1, q2, q3, q4, q5, q6, q7, if_pos z1, if_pos z3, addR, if_pos z6, if_pos z7]
  refine ⟨_, _, rfl, ?_, ?_⟩
  · rw [ga0]
    rfl
  · simp only [List.append_assoc]
    exact .app _ _
end
end K00
namespace K00
open PySem L2 MX
section
variable {n : Nat} {h : Hh} {ev : Ev} {env : MX.Env} {a : CE} {t c f : Str} {xs : List D} {b : Bool}
theorem toP_ints {k : Nat} : ∀ ns : List Int, optMap (MX.toP h (k + 1)) (ns.map .int) = some (ns.map PyData.int)
  | [] => rfl
  | i :: r => by simp [optMap, MX.toP, toP_ints r]
theorem lay_ints : ∀ ns : List Int, PyData.canLayAll0 (ns.map PyData.int) = true
  | [] => rfl
  | i :: r => by simp [PyData.canLayAll0, PyData.canLay0, lay_ints r]
theorem in_ints {i : Int} {sp : List Int} : cmpD .isin (.int i) (.tup (sp.map .int)) h = .ok (.bl (sp.contains i)) h := by
  have t1 : MX.toP h deep (.int i) = some (.int i) := rfl
  have t2 : optMap (MX.toP h deep) (sp.map .int) = some (sp.map PyData.int) := toP_ints _
  have t3 : ∀ l : List Int, (l.map PyData.int).any (fun q => PyData.eqv q (.int i)) = l.contains i := by
    intro l
    induction l with
    | nil => rfl
    | cons x l ih =>
      rw [List.map_cons, List.any_cons, ih, List.contains_cons]
      congr 1
      show (x == i) = (i == x)
      rw [Bool.eq_iff_iff]
      simp only [beq_iff_eq]
      exact eq_comm
  have i1 : inD h (.int i) (.tup (sp.map .int)) = some (sp.contains i) := by
    simp only [inD, seqOf, t1, t2, lay_ints, PyData.canLay0, Bool.and_self, if_true, t3]
  simp only [cmpD, i1]
theorem toP_bools {k : Nat} : ∀ bs : List Bool, optMap (MX.toP h (k + 1)) (bs.map .bl) = some (bs.map PyData.bool)
  | [] => rfl
  | i :: r => by simp [optMap, MX.toP, toP_bools r]
theorem lay_bools : ∀ bs : List Bool, PyData.canLayAll0 (bs.map PyData.bool) = true
  | [] => rfl
  | i :: r => by simp [PyData.canLayAll0, PyData.canLay0, lay_bools r]
theorem eqv_bools : ∀ bs cs : List Bool, PyData.eqvAll (bs.map PyData.bool) (cs.map PyData.bool) = decide (bs = cs)
  | [], [] => rfl
  | [], _ :: _ => by simp [PyData.eqvAll]
  | _ :: _, [] => by simp [PyData.eqvAll]
  | b :: bs, c :: cs => by
    rw [List.map_cons, List.map_cons, PyData.eqvAll, eqv_bools bs cs]
    cases b <;> cases c <;> simp [PyData.eqv]
theorem ne_bools {r q : Nat} {bs cs : List Bool} (e1 : h[r]? = some (.lst (bs.map .bl))) (e2 : h[q]? = some (.lst (cs.map .bl))) : cmpD .ne (.ref r) (.ref q) h = .ok (.bl (!decide (bs = cs))) h := by
  have t1 : ∀ {r bs}, h[r]? = some (.lst (List.map D.bl bs)) → MX.toP h deep (.ref r) = some (.list (bs.map PyData.bool)) := fun e => by simp only [MX.toP, deep, e, toP_bools]
  have l1 : ∀ bs : List Bool, PyData.canLay0 (.list (bs.map PyData.bool)) = true := fun bs => by simp only [PyData.canLay0, lay_bools]
  have e0 : PyData.eqv (.list (bs.map PyData.bool)) (.list (cs.map PyData.bool)) = decide (bs = cs) := by rw [PyData.eqv, eqv_bools]
  simp only [cmpD, eqD, t1 e1, t1 e2, l1, Bool.and_self, if_true, e0]
/-- truths that are true at some spots -/
def only (sp : List Int) (k : Nat) : List Bool := (List.range k).map fun (i : Nat) => sp.contains (i : Int)
def gO (sp : List Int) : D → Option D
  | .int i => some (.bl (sp.contains i))
  | _ => none
theorem only_ok {sp : List Int} {k : Nat} (hk : k ≤ 1000) : ∃ h' r, cf pg n 21 [.tup (sp.map .int), .int (k : Nat)] h = .ok (.ref r) h' ∧ h'[r]? = some (.lst ((only sp k).map .bl)) ∧ Gr h h' := by
  rw [cf_eq (fd := d21) rfl rfl rfl]
  have wk : wkRng (.int (k : Nat)) h = .ok (.rng 0 k) h := by
    simp only [wkRng]
    rw [if_pos (by omega)]
    simp
  have cp := comp_pure (ev := E0 pg n) (elt := .cmp .isin (.slot 2) (.slot 0)) (own := [2]) (tg := .name 2) (cond := .nil) (env := [some (.tup (sp.map .int)), some (.int (k : Nat)), none]) (wk := .rng 0 k) (h := h) (gO sp) rfl (by simp; exact z _ hk) (fun x hx acc => by
    obtain ⟨i, _, rfl⟩ := List.mem_map.mp hx
    rw [turn_eq (env' := [some (.tup (sp.map .int)), some (.int (k : Nat)), some (.int (0 + (i : Int)))]) rfl]
    simp only [cond_nil, rb_ok, if_true, e_cmp, e_slot, List.getElem?_cons_zero, List.getElem?_cons_succ, slotR_some, in_ints, nx_ok, gO])
  have fm : List.filterMap (gO sp) ((List.range k).map fun (i : Nat) => D.int (0 + (i : Int))) = (only sp k).map .bl := by
    unfold only
    rw [List.map_map]
    generalize List.range k = l
    induction l with
    | nil => rfl
    | cons i l ih =>
      rw [List.map_cons, List.filterMap_cons, List.map_cons, ih]
      simp only [gO, Int.zero_add, Function.comp]
  rw [fm] at cp
  refine ⟨h ++ [.lst ((only sp k).map .bl)], h.length, ?_, by rw [ga0]; rfl, .app _ _⟩
  simp only [d21, b21, ss_cons, s_ret, e_comp, i_rng, e_slot, List.map_cons, List.map_nil, List.length_cons, List.length_nil, Nat.zero_add, Nat.reduceAdd, Nat.reduceSub, List.replicate, List.cons_append, List.nil_append, List.getElem?_cons_zero, List.getElem?_cons_succ, slotR_some, rb_ok, wk, cp, rs_ok, sb_ret, ret_ret]
/-- the handled error's flags -/
theorem hot_ok {x : XV} (hc : pg.nam x.cls ∈ clsN) : ∃ h' r, (mkCl pg (tabs pg n)).callH 19 x h = .ok (.ref r) h' ∧ h'[r]? = some (.lst ((nm14.map (T (pg.nam x.cls))).map .bl)) ∧ Gr h h' := by
  have e_xis : ∀ t env h, evE ⟨pg, tabs pg n, none, some x⟩ (.xis t) env h = isxD pg t (.exn (pg.nam x.cls) ⟨#[]⟩ []) h := fun t env h => by simp only [evE]
  have q : ∀ t (ht : t ∈ nm14 ++ nm7) (H : Hh), isxD pg t (.exn (pg.nam x.cls) ⟨#[]⟩ []) H = .ok (.bl (T (pg.nam x.cls) t)) H := fun t ht H => lkT hc ht
  have q1 := q (Str.ofString "InvalidSchema") (by decide +kernel)
  have q2 := q (Str.ofString "InvalidRow") (by decide +kernel)
  have q3 := q (Str.ofString "InvalidStore") (by decide +kernel)
  have q4 := q (Str.ofString "InvalidQuestion") (by decide +kernel)
  have q5 := q (Str.ofString "InvalidPattern") (by decide +kernel)
  have q6 := q (Str.ofString "InvalidOperation") (by decide +kernel)
  have q7 := q (Str.ofString "InvalidEdit") (by decide +kernel)
  have q8 := q (Str.ofString "ParseError") (by decide +kernel)
  have q9 := q (Str.ofString "InvalidCommand") (by decide +kernel)
  have q10 := q (Str.ofString "InvalidNumber") (by decide +kernel)
  have q11 := q (Str.ofString "UnknownName") (by decide +kernel)
  have q12 := q (Str.ofString "TooMany") (by decide +kernel)
  have q13 := q (Str.ofString "Missing") (by decide +kernel)
  have q14 := q (Str.ofString "NothingToUndo") (by decide +kernel)
  have z1 := z 1 (by decide)
  have z2 := z 2 (by decide)
  have z3 := z 3 (by decide)
  have z5 := z 5 (by decide)
  have z8 := z 8 (by decide)
  have z11 := z 11 (by decide)
  have z14 := z 14 (by decide)
  have e : (mkCl pg (tabs pg n)).callH 19 x h = nx (retR (exSs ⟨pg, tabs pg n, none, some x⟩ hb19 (List.replicate 2 none) h)) := rfl
  rw [e]
  generalize T (pg.nam x.cls) = g at *
  simp only [hb19, ss_cons, ss_nil, s_asg, s_ret, e_lst, es_cons, es_nil, e_xis, e_slot, e_bin, List.map_cons, List.map_nil, List.length_cons, List.length_nil, Nat.zero_add, Nat.reduceAdd, Nat.reduceSub, List.replicate, List.cons_append, List.nil_append, List.getElem?_cons_zero, List.getElem?_cons_succ, List.set_cons_zero, List.set_cons_succ, slotR_some, rb_ok, rs_ok, sb_nxt, ret_ret, q1, q2, q3, q4, q5, q6, q7, q8, q9, q10, q11, q12, q13, q14, if_pos z1, if_pos z2, if_pos z3, addR, if_pos z5, if_pos z8, if_pos z11, if_pos z14]
  refine ⟨_, _, rfl, ?_, ?_⟩
  · rw [ga0]
    rfl
  · simp only [List.append_assoc]
    exact .app _ _
end
end K00
namespace K00
open PySem L2 MX
theorem for_enm {turn : D → MX.Env → Hh → SR} {P : Po} {r : Nat} (xs : List D) (I : Nat → MX.Env → Hh → Prop) (at_ : ∀ i env h, I i env h → h[r]? = some (.lst xs)) (step : ∀ i d env h, xs[i]? = some d → I i env h → wps (turn (.tup [.int (i : Nat), d]) env h) { P with nx := I (i + 1), ct := I (i + 1), bk := P.nx }) (fin : ∀ env h, I xs.length env h → P.nx env h)
    {env : MX.Env} {h : Hh} (h0 : I 0 env h) : wps (loopF turn xs.length (.enm (.ref r) 0 xs.length) env h) P := by
  refine for_wk (fun n wk env h => ∃ i, wk = .enm (.ref r) i n ∧ i + n = xs.length ∧ I i env h) ?_ _ _ _ _ ⟨0, rfl, by simp, h0⟩
  rintro n wk env h ⟨i, rfl, hn, hI⟩
  have ha := at_ _ _ _ hI
  cases n with
  | zero =>
    have e : Wk.next h (.enm (.ref r) i 0) = some none := by
      simp only [Wk.next, seqOf, ha]
      rw [if_pos (by omega)]
    rw [e]
    have : i = xs.length := by omega
    subst this
    exact fin env h hI
  | succ m =>
    have hi : i < xs.length := by omega
    have e : Wk.next h (.enm (.ref r) i (m + 1)) = some (some (.tup [.int (i : Nat), xs[i]], .enm (.ref r) (i + 1) m)) := by
      simp only [Wk.next, seqOf, ha]
      rw [if_pos (by omega)]
      simp [hi]
    rw [e]
    exact ⟨m, rfl, wps_mono (step i _ env h (List.getElem?_eq_getElem hi) hI) (fun e h z => ⟨i + 1, rfl, by omega, z⟩) (fun _ _ z => z) (fun _ _ z => z) (fun e h z => ⟨i + 1, rfl, by omega, z⟩) fun _ _ _ z => z⟩
section
variable {n : Nat} {h : Hh} {ev : Ev} {env : MX.Env} {a : CE} {t c f : Str} {xs : List D} {b : Bool}
@[simp] theorem e_mkxN {c f : Str} : evE ev (.mkx c f false a) env h = rb (evE ev a env h) fun _ h => .ok (.exn c f []) h := by simp only [evE, bind_rb, M.pure]
@[simp] theorem e_mkxO {pg : Pg} {t : Option (M D)} {x : Option XV} {c f : Str} : evE ⟨pg, tabs pg (n + 2), t, x⟩ (.mkx c f true a) env h = rb (evE ⟨pg, tabs pg (n + 2), t, x⟩ a env h) fun d h => .ok (.exn c f [d]) h := by simp only [evE, tabs, bind_rb, M.pure]
theorem flags_ne {sp : List Int} (hc : c ∈ clsN) (e : nm14.map (T c) = only sp 14) : ∃ h', rb (cf pg n 19 [.exn c f xs] h) (fun x h => rb (cf pg n 21 [.tup (sp.map .int), .int 14] h) fun y h => cmpD .ne x y h) = .ok (.bl false) h' ∧ Gr h h' := by
  obtain ⟨h1, r, e1, o1, g1⟩ := flags_ok (n := n) (h := h) (f := f) (xs := xs) hc
  obtain ⟨h2, q, e2, o2, g2⟩ := only_ok (n := n) (h := h1) (sp := sp) (k := 14) (by decide)
  have e2 : cf pg n 21 [.tup (sp.map .int), .int 14] h1 = .ok (.ref q) h2 := e2
  refine ⟨h2, ?_, g1.trans g2⟩
  rw [e1, rb_ok, e2, rb_ok, ne_bools (g2.get o1) o2, e]
  simp
theorem bases_ne {sp : List Int} (hc : c ∈ clsN) (e : nm7.map (T c) = only sp 7) : ∃ h', rb (cf pg n 20 [.exn c f xs] h) (fun x h => rb (cf pg n 21 [.tup (sp.map .int), .int 7] h) fun y h => cmpD .ne x y h) = .ok (.bl false) h' ∧ Gr h h' := by
  obtain ⟨h1, r, e1, o1, g1⟩ := bases_ok (n := n) (h := h) (f := f) (xs := xs) hc
  obtain ⟨h2, q, e2, o2, g2⟩ := only_ok (n := n) (h := h1) (sp := sp) (k := 7) (by decide)
  have e2 : cf pg n 21 [.tup (sp.map .int), .int 7] h1 = .ok (.ref q) h2 := e2
  refine ⟨h2, ?_, g1.trans g2⟩
  rw [e1, rb_ok, e2, rb_ok, ne_bools (g2.get o1) o2, e]
  simp
def told9 : List D := (nm14.take 9).map fun c => .exn c c []
theorem told_ok {m : D} : ∃ h' r, cf pg n 18 [m] h = .ok (.ref r) h' ∧ h'[r]? = some (.lst told9) ∧ Gr h h' := by
  have z1 := z 1 (by decide)
  have z4 := z 4 (by decide)
  have z8 := z 8 (by decide)
  have z9 := z 9 (by decide)
  rw [cf_eq (fd := d18) rfl rfl rfl]
  simp only [d18, b18, ss_cons, ss_nil, s_asg, s_ret, e_lst, es_cons, es_nil, e_mkxN, e_slot, e_bin, List.map_cons, List.map_nil, List.length_cons, List.length_nil, Nat.zero_add, Nat.reduceAdd, Nat.reduceSub, List.replicate, List.cons_append, List.nil_append, List.getElem?_cons_zero, List.getElem?_cons_succ, List.set_cons_zero, List.set_cons_succ, slotR_some, rb_ok, rs_ok, sb_nxt, ret_ret, if_pos z1, if_pos z4, addR, if_pos z8, if_pos z9]
  refine ⟨_, _, rfl, ?_, ?_⟩
  · rw [ga0]
    rfl
  · simp only [List.append_assoc]
    exact .app _ _
theorem told_at : ∀ (i : Nat) (c : Str), nm14[i]? = some c → i < 9 → c ∈ clsN ∧ nm14.map (T c) = only [(i : Int)] 14 ∧ nm7.map (T c) = only [0, 1] 7 := by
  have : ∀ (i : Nat), i < 9 → ∀ c : Str, nm14[i]? = some c → c ∈ clsN ∧ nm14.map (T c) = only [(i : Int)] 14 ∧ nm7.map (T c) = only [0, 1] 7 := by
    intro i hi c e
    have key : ∀ (i : Nat), i < 9 → (nm14[i]?.all fun c => decide (c ∈ clsN ∧ nm14.map (T c) = only [(i : Int)] 14 ∧ nm7.map (T c) = only [0, 1] 7)) = true := by decide +kernel
    have := key i hi
    rw [e] at this
    simpa using this
  intro i c e hi
  exact this i hi c e
theorem msgs_ok {m : Str} : wp (cf pg (n + 1) 22 [.str m] h) (fun v h' => v = .bl true ∧ Gr h h') (fun _ _ => False) := by
  have z1 := z 1 (by decide)
  have z2 := z 2 (by decide)
  have hD : Str.ofString "DearError" ∈ clsN := by decide +kernel
  obtain ⟨h1, r1, e1, o1, g1⟩ := flags_ok (n := n) (h := h) (f := Str.ofString "DearError") (xs := []) hD
  have fl : nm14.map (T (Str.ofString "DearError")) = List.replicate 14 false := by decide +kernel
  have ml : ∀ H : List MO, binD .mul (.ref (List.length H)) (.int 14) (H ++ [.lst [.bl false]]) = .ok (.ref (List.length (H ++ [MO.lst [.bl false]]))) (H ++ [.lst [.bl false]] ++ [.lst ((List.replicate 14 false).map .bl)]) := fun H => by
    have e : (H ++ [MO.lst [D.bl false]])[List.length H]? = some (.lst [.bl false]) := by
      rw [ga0]
      rfl
    simp only [binD, mulD, e]
    rw [if_pos ⟨by decide, by decide, z _ (by decide)⟩]
    rfl
  have c1 : cmpD .ne (.ref r1) (.ref (List.length (h1 ++ [MO.lst [.bl false]]))) (h1 ++ [.lst [.bl false]] ++ [.lst ((List.replicate 14 false).map .bl)]) = .ok (.bl false) (h1 ++ [.lst [.bl false]] ++ [.lst ((List.replicate 14 false).map .bl)]) := by
    rw [ne_bools (bs := List.replicate 14 false) (cs := List.replicate 14 false) ((((Gr.app h1 _).trans (Gr.app _ _))).get (by rw [o1, fl])) (by rw [ga0]; rfl)]
    simp
  obtain ⟨h2, e2, g2⟩ := bases_ne (n := n) (h := h1 ++ [.lst [.bl false]] ++ [.lst ((List.replicate 14 false).map .bl)]) (f := Str.ofString "DearError") (xs := []) (sp := [0, 1]) hD (by decide +kernel)
  have G2 : Gr h h2 := (g1.trans ((Gr.app h1 _).trans (Gr.app _ _))).trans g2
  obtain ⟨h3, r3, e3, o3, g3⟩ := told_ok (n := n) (h := h2) (m := .str m)
  simp only [List.map_cons, List.map_nil] at e2
  rw [cf_eq (fd := d22) rfl rfl rfl, wp_ret]
  simp only [d22, b22]
  rw [ss_cons, s_if]
  simp only [e_or, e_cmp, e_call, e_mkxN, e_bin, e_lst, e_tup, e_con, es_cons, es_nil, e_slot, List.map_cons, List.map_nil, List.length_cons, List.length_nil, Nat.zero_add, Nat.reduceAdd, Nat.reduceSub, List.replicate, List.cons_append, List.nil_append, List.getElem?_cons_zero, List.getElem?_cons_succ, slotR_some, rb_ok, if_pos z1, if_pos z2]
  simp only [e1, rb_ok, ml, c1, tru_bl, Bool.false_eq_true, if_false, e2, rs_ok, ss_nil, sb_nxt]
  rw [ss_cons, wps_sb, s_for, i_enm]
  simp only [e_call, es_cons, es_nil, e_slot, List.getElem?_cons_zero, List.getElem?_cons_succ, slotR_some, rb_ok, e3]
  have we : wkEnm (.ref r3) h3 = .ok (.enm (.ref r3) 0 told9.length) h3 := by simp only [wkEnm, seqOf, o3]
  rw [we, rs_ok]
  simp only [Wk.len]
  refine for_enm told9 (fun i env H => (∃ a b, env = [some (.str m), a, b]) ∧ Gr h3 H) (fun i env H z => z.2.get o3) ?_ ?_ ⟨⟨_, _, rfl⟩, .refl _⟩
  · rintro i d env H d1 ⟨⟨a, b, rfl⟩, G⟩
    have d1 : ((nm14.take 9).map fun c => D.exn c c [])[i]? = some d := d1
    rw [List.getElem?_map, Option.map_eq_some_iff] at d1
    obtain ⟨c, hc, rfl⟩ := d1
    have hi : i < 9 := by
      have := (List.getElem?_eq_some_iff.mp hc).1
      rw [List.length_take] at this
      omega
    rw [List.getElem?_take_of_lt hi] at hc
    obtain ⟨k1, k2, k3⟩ := told_at i c hc hi
    obtain ⟨H1, f1, G1⟩ := flags_ne (n := n) (h := H) (f := c) (xs := []) k1 k2
    obtain ⟨H2, f2, G2⟩ := bases_ne (n := n) (h := H1) (f := c) (xs := []) k1 k3
    simp only [List.map_cons, List.map_nil] at f1 f2
    simp only [asgT, asgTs, List.set_cons_zero, List.set_cons_succ]
    rw [ss_cons, s_if]
    simp only [e_or, e_cmp, e_call, e_tup, e_con, es_cons, es_nil, e_slot, List.length_cons, List.length_nil, Nat.zero_add, Nat.reduceAdd, List.getElem?_cons_zero, List.getElem?_cons_succ, slotR_some, rb_ok, if_pos z1, if_pos z2, f1, f2, tru_bl, Bool.false_eq_true, if_false, rs_ok, ss_nil, sb_nxt, wps_nxt]
    exact ⟨⟨_, _, rfl⟩, (G.trans G1).trans G2⟩
  · rintro env H ⟨⟨a, b, rfl⟩, G⟩
    simp only [ss_cons, s_ret, e_con, rs_ok, sb_ret, wps_ret]
    exact ⟨trivial, (G2.trans g3).trans G⟩
end
end K00
namespace MX
namespace Drw
open PySem L2
def stB : CSs := (.cons (.asg (.name 2) (.ife (.cmp .lt (.slot 1) (.bt .len (.cons (.slot 0) .nil))) (.idx (.slot 0) (.slot 1)) (.bin .add (.bin .mul (.con (.int (31))) (.slot 1)) (.con (.int (7)))))) (.cons (.asg (.name 3) (.bin .mod (.bt .int (.cons (.bt .abs (.cons (.slot 2) .nil)) .nil)) (.bin .pow (.bin .pow (.con (.int (10))) (.con (.int (61)))) (.con (.int (11)))))) (.cons (.asg (.name 4) (.bin .add (.bin .add (.bin .add (.bin .mul (.bin .mod (.bt .int (.cons (.slot 3) .nil)) (.con (.int (2147483563)))) (.con (.int (39373)))) (.bin .mul (.con (.int (3001))) (.slot 1))) (.bin .mul (.con (.int (11))) (.bt .int (.cons (.cmp .lt (.slot 2) (.con (.int (0)))) .nil)))) (.con (.int (23))))) (.cons (.ret (.lst (.cons (.bt .max (.cons (.con (.int (0))) (.cons (.bin .sub (.slot 3) (.bin .pow (.con (.int (10))) (.con (.int (18))))) .nil))) (.cons (.bin .mod (.bt .int (.cons (.slot 4) .nil)) (.con (.int (2147483399)))) (.cons (.con (.int (0))) .nil))))) .nil))))
abbrev stFD : FD := ⟨false, 2, 5, stB, none⟩
def thB : CSs := (.cons (.ifS (.cmp .gt (.idx (.slot 0) (.con (.int (0)))) (.con (.int (0)))) (.cons (.asg (.name 4) (.bin .mod (.bt .int (.cons (.idx (.slot 0) (.con (.int (0)))) .nil)) (.slot 1))) (.cons (.sets (.slot 0) (.con (.int (0))) (.bin .fdiv (.idx (.slot 0) (.con (.int (0)))) (.slot 1))) (.cons (.ret (.slot 4)) .nil))) .nil) (.cons (.sets (.slot 0) (.con (.int (2))) (.bin .add (.idx (.slot 0) (.con (.int (2)))) (.con (.int (1))))) (.cons (.asg (.name 2) (.bin .mod (.bt .int (.cons (.bin .add (.idx (.slot 0) (.con (.int (1)))) (.bin .mul (.con (.int (1000357))) (.idx (.slot 0) (.con (.int (2)))))) .nil)) (.con (.int (2305843009213693951))))) (.cons (.asg (.name 3) (.bin .add (.bin .mul (.bin .mod (.bt .int (.cons (.bin .mul (.slot 2) (.slot 2)) .nil)) (.con (.int (2305843009213693907)))) (.slot 2)) (.bin .mul (.con (.int (7919))) (.idx (.slot 0) (.con (.int (2))))))) (.cons (.asg (.name 3) (.bin .mod (.bt .int (.cons (.slot 3) .nil)) (.con (.int (2305843009213693921))))) (.cons (.ret (.bin .mod (.bt .int (.cons (.bin .fdiv (.slot 3) (.con (.int (4096)))) .nil)) (.slot 1))) .nil))))))
abbrev thFD : FD := ⟨false, 2, 5, thB, none⟩
def piB (th : Nat) : CSs := (.cons (.ret (.idx (.slot 1) (.call th (.cons (.slot 0) (.cons (.bt .len (.cons (.slot 1) .nil)) .nil))))) .nil)
abbrev piFD (th : Nat) : FD := ⟨false, 2, 2, piB th, none⟩
/-- a program that draws -/
structure HasD (pg : Pg) (st th pi : Nat) : Prop where
  f_st : pg.fns[st]? = some stFD
  f_th : pg.fns[th]? = some thFD
  f_pi : pg.fns[pi]? = some (piFD th)
section
variable {pg : Pg} {st th pi : Nat}
/-! ### the bag -/
structure Bag (r k : Nat) (h : Hh) : Prop where
  ex : ∃ a b c : Int, h[r]? = some (.lst [.int a, .int b, .int c]) ∧ 0 ≤ a ∧ a < 10 ^ 700 ∧ 0 ≤ b ∧ b < 2 ^ 40 ∧ 0 ≤ c ∧ c ≤ k
/-- all but the object at r stays -/
structure KeepB (r : Nat) (h h' : Hh) : Prop where
  len : h.length ≤ h'.length
  at_ : ∀ k o, k ≠ r → h[k]? = some o → h'[k]? = some o
theorem KeepB.refl (r : Nat) (h : Hh) : KeepB r h h := ⟨Nat.le_refl _, fun _ _ _ e => e⟩
theorem KeepB.trans {r : Nat} {h h1 h2 : Hh} (a : KeepB r h h1) (b : KeepB r h1 h2) : KeepB r h h2 := ⟨Nat.le_trans a.len b.len, fun k o n e => b.at_ k o n (a.at_ k o n e)⟩
theorem KeepB.set {r : Nat} {h : Hh} (o : MO) : KeepB r h (h.set r o) := ⟨by simp, fun k o' n e => by rw [List.getElem?_set_ne (Ne.symm n)]; exact e⟩
theorem KeepB.app {r : Nat} {h : Hh} (g : Hh) : KeepB r h (h ++ g) := ⟨by simp, fun k o' n e => by rw [List.getElem?_append_left (List.getElem?_eq_some_iff.mp e).1]; exact e⟩
theorem idx_lst {h : Hh} {r : Nat} {xs : List D} {k : Int} {d : D} (e : h[r]? = some (.lst xs)) (a : L2.atI xs k = some d) : idxD (.ref r) (.int k) h = .ok d h := by
  simp only [idxD, seqOf, e, a]
theorem set_lst {h : Hh} {r j : Nat} {xs : List D} {k : Int} {v : D} (e : h[r]? = some (.lst xs)) (a : L2.ixN xs.length k = some j) : setD (.ref r) (.int k) v h = .ok () (h.set r (.lst (xs.set j v))) := by
  simp only [setD, e, a]
theorem log_lt {i : Int} {n k : Nat} (h0 : 0 ≤ i) (h : i < (n : Int)) (hn : n ≤ 2 ^ k) (hk : 0 < k) : i.natAbs.log2 < k := by
  by_cases z : i.natAbs = 0
  · rw [z]
    simpa using hk
  · rw [Nat.log2_lt z]
    have : (i.natAbs : Int) = i := by omega
    omega
theorem mul_b {i j : Int} {h : Hh} (i0 : 0 ≤ i) (i1 : i < 2 ^ 1000) (j0 : 0 ≤ j) (j1 : j < 2 ^ 1000) : binD .mul (.int i) (.int j) h = .ok (.int (i * j)) h := by
  refine mul_int ?_
  have a := log_lt (n := 2 ^ 1000) (k := 1000) i0 (by exact_mod_cast i1) (Nat.le_refl _) (by decide)
  have b := log_lt (n := 2 ^ 1000) (k := 1000) j0 (by exact_mod_cast j1) (Nat.le_refl _) (by decide)
  omega
theorem big {i : Int} {n : Nat} (h : i < (n : Int)) (hn : n ≤ 2 ^ 1000) : i < 2 ^ 1000 := Int.lt_of_lt_of_le h (by exact_mod_cast hn)
theorem throw {n r k : Nat} {t : Int} {h : Hh} (H : HasD pg st th pi) (B : Bag r k h) (hk : k < 10 ^ 9) (t0 : 0 < t) (t1 : t < 10 ^ 9) :
    wp (cf pg n th [.ref r, .int t] h) (fun v h' => ∃ i : Int, v = .int i ∧ 0 ≤ i ∧ i < t ∧ Bag r (k + 1) h' ∧ KeepB r h h' ∧ h'.length = h.length) (fun _ _ => False) := by
  obtain ⟨a, b, c, e, a0, a1, b0, b1, c0, c1⟩ := B.ex
  have hr : r < h.length := (List.getElem?_eq_some_iff.mp e).1
  rw [cf_eq H.f_th rfl rfl]
  have i0 : idxD (.ref r) (.int 0) h = .ok (.int a) h := idx_lst e rfl
  have i1 : idxD (.ref r) (.int 1) h = .ok (.int b) h := idx_lst e rfl
  have i2 : idxD (.ref r) (.int 2) h = .ok (.int c) h := idx_lst e rfl
  have lt : t.natAbs.log2 < 9000 := log_lt (n := 10 ^ 9) (by omega) (by exact_mod_cast t1) (by decide) (by decide)
  by_cases ha : 0 < a
  · have s0 : setD (.ref r) (.int 0) (.int (a / t)) h = .ok () (h.set r (.lst [.int (a / t), .int b, .int c])) := set_lst (j := 0) e rfl
    simp [thB, i0, ha, btD, bt1, M.pure, mod_int t0, fdiv_int ⟨t0, lt⟩, s0]
    refine ⟨Int.emod_nonneg _ (by omega), Int.emod_lt_of_pos _ t0, ⟨⟨a / t, b, c, by simp [hr], Int.ediv_nonneg a0 (by omega), ?_, b0, b1, c0, by omega⟩⟩, KeepB.set _⟩
    exact Int.lt_of_le_of_lt (Int.ediv_le_self _ a0) a1
  · have s2 : setD (.ref r) (.int 2) (.int (c + 1)) h = .ok () (h.set r (.lst [.int a, .int b, .int (c + 1)])) := set_lst (j := 2) e rfl
    have e' : (h.set r (.lst [.int a, .int b, .int (c + 1)]))[r]? = some (.lst [.int a, .int b, .int (c + 1)]) := by simp [hr]
    have j1 : idxD (.ref r) (.int 1) (h.set r (.lst [.int a, .int b, .int (c + 1)])) = .ok (.int b) _ := idx_lst e' rfl
    have j2 : idxD (.ref r) (.int 2) (h.set r (.lst [.int a, .int b, .int (c + 1)])) = .ok (.int (c + 1)) _ := idx_lst e' rfl
    have c2 : c + 1 < 2 ^ 40 := by omega
    have m1 : ∀ H, binD .mul (.int 1000357) (.int (c + 1)) H = .ok (.int (1000357 * (c + 1))) H := fun H => mul_b (by decide) (by decide) (by omega) (big (n := 2 ^ 40) (by omega) (by decide))
    generalize hone : (b + 1000357 * (c + 1)) % 2305843009213693951 = one
    have o0 : 0 ≤ one := by rw [← hone]; exact Int.emod_nonneg _ (by decide)
    have o1 : one < 2305843009213693951 := by rw [← hone]; exact Int.emod_lt_of_pos _ (by decide)
    have m2 : ∀ H, binD .mul (.int one) (.int one) H = .ok (.int (one * one)) H := fun H => mul_b o0 (big (n := 2305843009213693951) o1 (by decide)) o0 (big (n := 2305843009213693951) o1 (by decide))
    generalize htwo : one * one % 2305843009213693907 = two
    have w0 : 0 ≤ two := by rw [← htwo]; exact Int.emod_nonneg _ (by decide)
    have w1 : two < 2305843009213693907 := by rw [← htwo]; exact Int.emod_lt_of_pos _ (by decide)
    have m3 : ∀ H, binD .mul (.int two) (.int one) H = .ok (.int (two * one)) H := fun H => mul_b w0 (big (n := 2305843009213693907) w1 (by decide)) o0 (big (n := 2305843009213693951) o1 (by decide))
    have m4 : ∀ H, binD .mul (.int 7919) (.int (c + 1)) H = .ok (.int (7919 * (c + 1))) H := fun H => mul_b (by decide) (by decide) (by omega) (big (n := 2 ^ 40) (by omega) (by decide))
    have f1 : ∀ (x : Int) H, binD .fdiv (.int x) (.int 4096) H = .ok (.int (x / 4096)) H := fun x H => fdiv_int (by decide)
    have p1 : ∀ (x : Int) H, binD .mod (.int x) (.int 2305843009213693951) H = .ok (.int (x % 2305843009213693951)) H := fun x H => mod_int (by decide)
    have p2 : ∀ (x : Int) H, binD .mod (.int x) (.int 2305843009213693907) H = .ok (.int (x % 2305843009213693907)) H := fun x H => mod_int (by decide)
    have p3 : ∀ (x : Int) H, binD .mod (.int x) (.int 2305843009213693921) H = .ok (.int (x % 2305843009213693921)) H := fun x H => mod_int (by decide)
    simp [thB, i0, i2, ha, btD, bt1, M.pure, s2, j1, j2, m1, p1, hone, m2, p2, htwo, m3, m4, p3, f1, mod_int t0]
    refine ⟨Int.emod_nonneg _ (by omega), Int.emod_lt_of_pos _ t0, ⟨⟨a, b, c + 1, e', a0, a1, b0, b1, by omega, by omega⟩⟩, KeepB.set _⟩
theorem Bag.app {r k : Nat} {h : Hh} (B : Bag r k h) (g : Hh) : Bag r k (h ++ g) := by
  obtain ⟨a, b, c, e, z⟩ := B.ex
  exact ⟨a, b, c, by rw [List.getElem?_append_left (List.getElem?_eq_some_iff.mp e).1]; exact e, z⟩
theorem Bag.lt {r k : Nat} {h : Hh} (B : Bag r k h) : r < h.length := by
  obtain ⟨a, b, c, e, z⟩ := B.ex
  exact (List.getElem?_eq_some_iff.mp e).1
theorem Bag.mono {r k j : Nat} {h : Hh} (B : Bag r k h) (hk : k ≤ j) : Bag r j h := by
  obtain ⟨a, b, c, e, z1, z2, z3, z4, z5, z6⟩ := B.ex
  exact ⟨a, b, c, e, z1, z2, z3, z4, z5, by omega⟩
theorem atI_mem {xs : List D} {i : Int} (h0 : 0 ≤ i) (h1 : i < xs.length) : ∃ d, L2.atI xs i = some d ∧ d ∈ xs := by
  obtain ⟨m, rfl⟩ := Int.eq_ofNat_of_zero_le h0
  have hm : m < xs.length := by omega
  refine ⟨xs[m], ?_, List.getElem_mem hm⟩
  exact L2.atI_nat (j := m) (List.getElem?_eq_getElem hm)
theorem pick {n r q k : Nat} {xs : List D} {h : Hh} (H : HasD pg st th pi) (B : Bag r k h) (hk : k < 10 ^ 9) (e : h[q]? = some (.lst xs)) (hq : q ≠ r) (x0 : 0 < xs.length) (x1 : xs.length < 10 ^ 9) :
    wp (cf pg (n + 1) pi [.ref r, .ref q] h) (fun v h' => v ∈ xs ∧ Bag r (k + 1) h' ∧ KeepB r h h' ∧ h'.length = h.length) (fun _ _ => False) := by
  rw [cf_eq H.f_pi rfl rfl]
  have l0 : btD .len [.ref q] h = .ok (.int xs.length) h := by simp [btD, bt1, lenD, e]
  simp [piB, wp_ret, wps_sb, wps_rs, wp_rb, l0]
  refine wp_mono (throw H B hk (by omega) (by omega)) (fun v h' z => ?_) fun _ _ z => z
  obtain ⟨i, rfl, i0, i1, B', K', hl⟩ := z
  obtain ⟨d, e1, e2⟩ := atI_mem i0 i1
  rw [idx_lst (K'.at_ q _ hq e) e1]
  exact ⟨e2, B', K', hl⟩
theorem start {n : Nat} {at_ : Int} {ns : List Int} {h : Hh} (H : HasD pg st th pi) (a0 : 0 ≤ at_) (a1 : at_ < 1000) :
    wp (cf pg n st [.scr ns, .int at_] h) (fun v h' => v = .ref h.length ∧ Bag h.length 0 h' ∧ h'.length = h.length + 1) (fun _ _ => False) := by
  rw [cf_eq H.f_st rfl rfl]
  have ln : btD .len [.scr ns] h = .ok (.int ns.length) h := rfl
  have pa : ∀ H, binD .pow (.int 10) (.int 61) H = .ok (.int (10 ^ 61)) H := fun H => pow_int (by decide)
  have pb : ∀ H, binD .pow (.int (10 ^ 61)) (.int 11) H = .ok (.int ((10 ^ 61) ^ 11)) H := fun H => pow_int (by decide +kernel)
  have pc : ∀ H, binD .pow (.int 10) (.int 18) H = .ok (.int (10 ^ 18)) H := fun H => pow_int (by decide)
  have mm : ∀ (x : Int) H, binD .mod (.int x) (.int ((10 ^ 61) ^ 11)) H = .ok (.int (x % (10 ^ 61) ^ 11)) H := fun x H => mod_int (Int.pow_pos (Int.pow_pos (by decide)))
  have m1 : ∀ (x : Int) H, binD .mod (.int x) (.int 2147483563) H = .ok (.int (x % 2147483563)) H := fun x H => mod_int (by decide)
  have m2 : ∀ (x : Int) H, binD .mod (.int x) (.int 2147483399) H = .ok (.int (x % 2147483399)) H := fun x H => mod_int (by decide)
  have q1 : ∀ (x : Int) H, binD .mul (.int (x % 2147483563)) (.int 39373) H = .ok (.int (x % 2147483563 * 39373)) H := fun x H => mul_b (Int.emod_nonneg _ (by decide)) (big (n := 2147483563) (Int.emod_lt_of_pos _ (by decide)) (by decide)) (by decide) (by decide)
  have q2 : ∀ H, binD .mul (.int 3001) (.int at_) H = .ok (.int (3001 * at_)) H := fun H => mul_b (by decide) (by decide) a0 (big (n := 1000) a1 (by decide))
  have q3 : ∀ (x : Int) H, 0 ≤ x → x < 2 → binD .mul (.int 11) (.int x) H = .ok (.int (11 * x)) H := fun x H x0 x1 => mul_b (by decide) (by decide) x0 (big (n := 2) x1 (by decide))
  have q4 : ∀ H, binD .mul (.int 31) (.int at_) H = .ok (.int (31 * at_)) H := fun H => mul_b (by decide) (by decide) a0 (big (n := 1000) a1 (by decide))
  have sz : (3 : Nat) ≤ sizeLine := by decide
  have key : ∀ cell : Int, wps (exSs (E0 pg n) (match stB with | .cons _ r => r | r => r) [some (.scr ns), some (.int at_), some (.int cell), none, none] h) { nx := fun _ _ => False, rt := fun v h' => v = D.ref h.length ∧ Bag h.length 0 h' ∧ h'.length = h.length + 1, ex := fun _ _ _ => False } := by
    intro cell
    have z0 : ∀ x : Int, 0 ≤ x % (10 ^ 61) ^ 11 := fun x => Int.emod_nonneg _ (by decide +kernel)
    have z1 : ∀ x : Int, x % (10 ^ 61) ^ 11 < (10 ^ 61) ^ 11 := fun x => Int.emod_lt_of_pos _ (Int.pow_pos (Int.pow_pos (by decide)))
    have zz : ((10 : Int) ^ 61) ^ 11 < 10 ^ 700 := by
      rw [← Int.pow_mul]
      exact_mod_cast Nat.pow_lt_pow_right (by decide) (by decide)
    generalize hB : ((10 : Int) ^ 61) ^ 11 = B at *
    have fin : ∀ (g m : Int), 0 ≤ g → g < B → Bag h.length 0 (h ++ [.lst [.int (if 10 ^ 18 < g then g - 10 ^ 18 else 0), .int (m % 2147483399), .int 0]]) := fun g m g0 g1 => by
      refine ⟨_, _, _, get_last, ?_, ?_, Int.emod_nonneg _ (by decide), ?_, by decide, by decide⟩
      · split <;> omega
      · split <;> omega
      · have := Int.emod_lt_of_pos m (show (0 : Int) < 2147483399 by decide)
        omega
    by_cases hc : cell < 0
    · simp [-Int.reducePow, stB, btD, bt1, bt2, intsM, M.pure, hc, pa, pb, pc, mm, m1, m2, q1, q2, q3, sz]
      exact fin _ _ (z0 _) (z1 _)
    · simp [-Int.reducePow, stB, btD, bt1, bt2, intsM, M.pure, hc, pa, pb, pc, mm, m1, m2, q1, q2, q3, sz]
      exact fin _ _ (z0 _) (z1 _)
  by_cases hl : at_ < ns.length
  · obtain ⟨d, e1, e2⟩ := atI_mem (xs := ns.map D.int) a0 (by simpa using hl)
    obtain ⟨cell, _, rfl⟩ := List.mem_map.mp e2
    have ix : idxD (.scr ns) (.int at_) h = .ok (.int cell) h := by simp only [idxD, seqOf, e1]
    have k := key cell
    simp only [stB] at k
    rw [wp_ret]
    simp only [stB]
    rw [ss_cons]
    simp only [s_asg, e_ife, e_cmp, e_slot, e_bt, es_cons, es_nil, List.map, List.length, List.replicate, List.append_nil, List.cons_append, List.nil_append, List.getElem?_cons_zero, List.getElem?_cons_succ, slotR_some, rb_ok, ln, lt_int, hl, decide_true, tru_bl, if_true, e_idx, ix, rs_ok, sb_nxt, List.set]
    exact wps_mono k (fun _ _ z => z.elim) (fun _ _ z => z) (fun _ _ z => z) (fun _ _ z => z) fun _ _ _ z => z
  · have k := key (31 * at_ + 7)
    simp only [stB] at k
    rw [wp_ret]
    simp only [stB]
    rw [ss_cons]
    simp only [s_asg, e_ife, e_cmp, e_slot, e_bt, es_cons, es_nil, List.map, List.length, List.replicate, List.append_nil, List.cons_append, List.nil_append, List.getElem?_cons_zero, List.getElem?_cons_succ, slotR_some, rb_ok, ln, lt_int, hl, decide_false, tru_bl, Bool.false_eq_true, if_false, e_bin, e_con, q4, add_int, rs_ok, sb_nxt, List.set]
    exact wps_mono k (fun _ _ z => z.elim) (fun _ _ z => z) (fun _ _ z => z) (fun _ _ z => z) fun _ _ _ z => z
end
end Drw
end MX
namespace K00
open PySem L2 MX MX.Drw
theorem HD : HasD pg 15 16 17 := ⟨rfl, rfl, rfl⟩
section
variable {n r k p q : Nat} {h : Hh} {ev : Ev} {env : MX.Env} {a : CE} {t c f : Str} {xs : List D} {b : Bool}
def some10 (p q : Nat) : List D := [.int (-1), .int 9, .non, .bl true, .str (Str.ofString "no"), .tup [], .ref p, .ref q, .int (10 ^ 39), .tup [.str (Str.ofString "r"), .int 1, .int 2]]
def some6 : List D := [.tup [], .tup [.int 7], .tup [.int (-1), .int (10 ^ 39)], .tup [.str (Str.ofString "fee")], .tup [.str (Str.ofString "r"), .int 1, .int 2], .tup [.str (Str.ofString "s"), .int (0 - 10 ^ 39)]]
/-- small data: shown, comparable, of a short text -/
def Sm (h : Hh) (d : D) : Prop := ∃ y, MX.toP h 19 d = some y ∧ goodP y = true ∧ szP y ≤ 10000
theorem sm_all {bs : List D} {P : D → Bool} (k : ∀ d ∈ bs, P d = true) {d : D} (m : d ∈ bs) : P d = true := k d m
def smB (d : D) : Bool := match MX.toP [] 19 d with
  | some y => goodP y && decide (szP y ≤ 10000)
  | none => false
def flt : D → Prop
  | .int _ => True
  | .str _ => True
  | _ => False
def clo : D → Prop
  | .ref _ => False
  | .tup xs => ∀ x ∈ xs, flt x
  | _ => True
theorem toP_closed : ∀ (d : D) (y : PyData), MX.toP [] 19 d = some y → clo d → MX.toP h 19 d = some y := by
  intro d y e g
  have at_ : ∀ (H : Hh) (xs : List D), (∀ x ∈ xs, flt x) → optMap (MX.toP H 18) xs = optMap (MX.toP [] 18) xs := by
    intro H xs
    induction xs with
    | nil => intro _; rfl
    | cons x xs ih =>
      intro g
      have gx := g x (List.mem_cons_self ..)
      have e0 : MX.toP H 18 x = MX.toP [] 18 x := by
        cases x <;> first | rfl | exact gx.elim
      simp only [optMap, e0, ih fun x m => g x (List.mem_cons_of_mem _ m)]
  cases d with
  | tup xs =>
    simp only [MX.toP] at e ⊢
    rw [at_ h xs g]
    exact e
  | ref r => exact g.elim
  | _ => exact e
theorem sm_closed {d : D} (e : smB d = true) (g : clo d) : Sm h d := by
  unfold smB at e
  split at e
  · next y hy =>
    rw [Bool.and_eq_true, decide_eq_true_eq] at e
    exact ⟨y, toP_closed d y hy g, e.1, e.2⟩
  · cases e
theorem sm6 {d : D} (m : d ∈ some6) : Sm h d := by
  simp only [some6, List.mem_cons, List.not_mem_nil, or_false] at m
  rcases m with rfl | rfl | rfl | rfl | rfl | rfl <;> exact sm_closed (by decide +kernel) (by simp [clo, flt])
theorem sm10 {d : D} (ep : h[p]? = some (.lst [.int 1])) (eq : h[q]? = some (.dct [(.str (Str.ofString "a"), .int 1)])) (m : d ∈ some10 p q) : Sm h d := by
  simp only [some10, List.mem_cons, List.not_mem_nil, or_false] at m
  rcases m with rfl | rfl | rfl | rfl | rfl | rfl | rfl | rfl | rfl | rfl
  · exact sm_closed (by decide +kernel) (by simp [clo, flt])
  · exact sm_closed (by decide +kernel) (by simp [clo, flt])
  · exact sm_closed (by decide +kernel) (by simp [clo, flt])
  · exact sm_closed (by decide +kernel) (by simp [clo, flt])
  · exact sm_closed (by decide +kernel) (by simp [clo, flt])
  · exact sm_closed (by decide +kernel) (by simp [clo, flt])
  · exact ⟨.list [.int 1], by simp only [MX.toP, ep, optMap], by decide +kernel, by decide +kernel⟩
  · exact ⟨.dict [(.str (Str.ofString "a"), .int 1)], by simp only [MX.toP, eq, optMap], by decide +kernel, by decide +kernel⟩
  · exact sm_closed (by decide +kernel) (by simp [clo, flt])
  · exact sm_closed (by decide +kernel) (by simp [clo, flt])
theorem sm_int {i : Int} (z : i.natAbs.log2 < 1920) : Sm h (.int i) := ⟨.int i, rfl, by simpa only [goodP, decide_eq_true_eq] using z, by simp only [szP]; omega⟩
theorem sm_keep {h h' : Hh} {d : D} (S : Sm h d) (K : ∀ y, MX.toP h 19 d = some y → MX.toP h' 19 d = some y) : Sm h' d := by
  obtain ⟨y, e, z⟩ := S
  exact ⟨y, K y e, z⟩
/-- two lists of the same small things show the same -/
theorem repr_same {r q : Nat} {xs : List D} (e1 : h[r]? = some (.lst xs)) (e2 : h[q]? = some (.lst xs)) (l : xs.length ≤ 10) (S : ∀ x ∈ xs, Sm h x) : ∃ x, btD .repr [.ref r] h = .ok (.str x) h ∧ btD .repr [.ref q] h = .ok (.str x) h ∧ cmpD .eq (.str x) (.str x) h = .ok (.bl true) h := by
  have all : ∀ xs : List D, (∀ x ∈ xs, Sm h x) → ∃ ys, optMap (MX.toP h 19) xs = some ys ∧ goodPs ys = true ∧ szPs ys ≤ 10002 * xs.length := by
    intro xs
    induction xs with
    | nil => exact fun _ => ⟨[], rfl, rfl, Nat.zero_le _⟩
    | cons x xs ih =>
      intro S
      obtain ⟨ys, e, g, z⟩ := ih fun x m => S x (List.mem_cons_of_mem _ m)
      obtain ⟨y, e', g', z'⟩ := S x (List.mem_cons_self ..)
      refine ⟨y :: ys, by simp only [optMap, e, e'], by simp only [goodPs, g, g', Bool.and_self], ?_⟩
      simp only [szPs, List.length_cons]
      omega
  obtain ⟨ys, e, g, z⟩ := all xs S
  have t : ∀ r, h[r]? = some (.lst xs) → MX.toP h deep (.ref r) = some (.list ys) := fun r er => by simp only [MX.toP, deep, er, e]
  obtain ⟨g1, g2, g3⟩ := good_show (.list ys) g
  have sz : (PyData.list ys).shown.length ≤ sizeLine := by
    refine Nat.le_trans g2 ?_
    simp only [szP, sizeLine_eq]
    omega
  have rp : ∀ r, h[r]? = some (.lst xs) → btD .repr [.ref r] h = .ok (.str (PyData.list ys).shown) h := fun r er => by
    simp only [btD, bt1, reprD, t r er, g3, decide_eq_true sz, Bool.and_self, if_true]
  refine ⟨_, rp r e1, rp q e2, ?_⟩
  have t1 : ∀ x : Str, MX.toP h deep (.str x) = some (.str x) := fun x => rfl
  have l1 : PyData.canLay0 (.str (PyData.list ys).shown) = true := g1
  have v1 : ∀ x : Str, PyData.eqv (.str x) (.str x) = true := fun x => by simp [PyData.eqv]
  simp only [cmpD, eqX, eqD, t1, l1, Bool.and_self, if_true, v1]
end
end K00
namespace K00
open PySem L2 MX MX.Drw
section
variable {n r k p q o : Nat} {h h' : Hh} {ev : Ev} {env : MX.Env} {a : CE} {t c f : Str} {xs : List D} {b : Bool}
@[simp] theorem e_disp_str {i : Str} {d : D} : evE ev (.disp (.str i) d) env h = .ok (.ref h.length) (h ++ [.dct [(.str i, d)]]) := rfl
theorem Gr.kb (g : Gr h h') : KeepB r h h' := by
  obtain ⟨l, rfl⟩ := g.ex
  exact .app l
theorem Bag.gr (B : Bag r k h) (g : Gr h h') : Bag r k h' := by
  obtain ⟨l, rfl⟩ := g.ex
  exact B.app l
/-- the five errors that keep a value -/
def cf5 : List (Str × Str) := [(Str.ofString "InvalidNumber", Str.ofString "value"), (Str.ofString "UnknownName", Str.ofString "name"), (Str.ofString "TooMany", Str.ofString "limit"), (Str.ofString "Missing", Str.ofString "answer"), (Str.ofString "NothingToUndo", Str.ofString "many")]
def bh5 : List (List Int) := [[2, 5], [3, 5], [4, 6], [5], [6]]
def made5 (ds : List D) : List D := (cf5.zip ds).map fun p => .exn p.1.1 p.1.2 [p.2]
theorem made_at {ds : List D} (l : ds.length = 5) (i : Nat) (d : D) (e : (made5 ds)[i]? = some d) : i < 5 ∧ ∃ c f y sp, d = .exn c f [y] ∧ c ∈ clsN ∧ bh5[i]? = some sp ∧ nm14.map (T c) = only [9 + (i : Int)] 14 ∧ nm7.map (T c) = only sp 7 := by
  have hl : (made5 ds).length = 5 := by simp [made5, cf5, l]
  have hi : i < 5 := by
    have := (List.getElem?_eq_some_iff.mp e).1
    omega
  refine ⟨hi, ?_⟩
  unfold made5 at e
  rw [List.getElem?_map, Option.map_eq_some_iff] at e
  obtain ⟨x, ex, rfl⟩ := e
  have e1 := congrArg (Option.map Prod.fst) ex
  rw [← List.getElem?_map] at e1
  have zl : (cf5.zip ds).map Prod.fst = cf5 := by
    rw [List.map_fst_zip]
    simp [cf5, l]
  rw [zl] at e1
  have key : ∀ (i : Nat), i < 5 → (match cf5[i]?, bh5[i]? with | some x, some sp => decide (x.1 ∈ clsN ∧ nm14.map (T x.1) = only [9 + (i : Int)] 14 ∧ nm7.map (T x.1) = only sp 7) | _, _ => false) = true := by decide +kernel
  have k := key i hi
  rw [e1] at k
  simp only [Option.map_some] at k
  split at k
  · next y sp ey es =>
    cases ey
    have k := of_decide_eq_true k
    exact ⟨_, _, _, sp, rfl, k.1, es, k.2⟩
  · cases k
theorem vals_ok (B : Bag r k h) (hk : k + 10 < 10 ^ 9) : wp (cf pg (n + 2) 23 [.ref r] h) (fun v h' => v = .bl true ∧ Bag r (k + 5) h' ∧ KeepB r h h') (fun _ _ => False) := by
  have z0 := z 0 (by decide)
  have z1 := z 1 (by decide)
  have z2 := z 2 (by decide)
  have z3 := z 3 (by decide)
  have z5 := z 5 (by decide)
  have z6 := z 6 (by decide)
  have z10 := z 10 (by decide)
  have pw : ∀ H, binD .pow (.int 10) (.int 39) H = .ok (.int (10 ^ 39)) H := fun H => pow_int (by decide)
  rw [cf_eq (fd := d23) rfl rfl rfl, wp_ret]
  simp only [d23, b23]
  rw [ss_cons]
  simp only [s_asg, e_lst, e_neg, e_con, e_tup, e_disp_str, e_bin, es_cons, es_nil, e_slot, List.map_cons, List.map_nil, List.length_cons, List.length_nil, Nat.zero_add, Nat.reduceAdd, Nat.reduceSub, List.replicate, List.cons_append, List.nil_append, List.getElem?_cons_zero, List.getElem?_cons_succ, List.set_cons_zero, List.set_cons_succ, slotR_some, rb_ok, rs_ok, sb_nxt, pw, if_pos z0, if_pos z1, if_pos z3, if_pos z10]
  have rl := B.lt
  generalize hp : List.length h = p
  generalize hh1 : h ++ [MO.lst [D.int 1]] = h1
  have lp1 : h1.length = p + 1 := by rw [← hh1, ← hp]; simp
  have ep : h1[p]? = some (.lst [.int 1]) := by rw [← hh1, ← hp, ga0]; rfl
  have G1 : Gr h h1 := by rw [← hh1]; exact .app _ _
  generalize hq : List.length h1 = q
  generalize hh2 : h1 ++ [MO.dct [(D.str (Str.ofString "a"), D.int 1)]] = h2
  have G2 : Gr h1 h2 := by rw [← hh2]; exact .app _ _
  have eq : h2[q]? = some (.dct [(D.str (Str.ofString "a"), D.int 1)]) := by rw [← hh2, ← hq, ga0]; rfl
  have lp2 : h2.length = q + 1 := by rw [← hh2, ← hq]; simp
  generalize hs : List.length h2 = s
  have hsm : (D.int (- 1) :: D.int 9 :: D.non :: D.bl true :: D.str (Str.ofString "no") :: D.tup [] :: D.ref p :: D.ref q :: D.int (10 ^ 39) :: D.tup [D.str (Str.ofString "r"), D.int 1, D.int 2] :: []) = some10 p q := rfl
  simp only [hsm]
  generalize hh3 : h2 ++ [MO.lst (some10 p q)] = h3
  have G3 : Gr h2 h3 := by rw [← hh3]; exact .app _ _
  have es : h3[s]? = some (.lst (some10 p q)) := by rw [← hh3, ← hs, ga0]; rfl
  have ep := (G2.trans G3).get ep
  have eq := G3.get eq
  have B3 := Bag.gr B ((G1.trans G2).trans G3)
  have K3 : KeepB r h h3 := ((G1.trans G2).trans G3).kb
  clear hh1 hh2 hh3
  rw [ss_cons]
  simp only [s_asg, e_lst, e_call, es_cons, es_nil, e_slot, e_con, List.getElem?_cons_zero, List.getElem?_cons_succ, slotR_some, rb_ok, wps_sb, wps_rs, wp_rb]
  refine wp_mono (pick (n := n) HD B3 (by omega) es (by omega) (by simp [some10]) (by simp [some10])) (fun d0 h4 y => ?_) fun _ _ y => y.elim
  obtain ⟨m0, B4, K4, l4⟩ := y
  refine wp_mono (pick (n := n) HD B4 (by omega) (K4.at_ s _ (by omega) es) (by omega) (by simp [some10]) (by simp [some10])) (fun d1 h5 y => ?_) fun _ _ y => y.elim
  obtain ⟨m1, B5, K5, l5⟩ := y
  have S2 : ∀ {i : Int}, D.int i ∈ [D.int 4, D.int 8, D.int 20, D.int 64, D.int 200] → i.natAbs.log2 < 1920 := fun {i} m => by
    simp only [List.mem_cons, List.not_mem_nil, or_false, D.int.injEq] at m
    rcases m with rfl | rfl | rfl | rfl | rfl <;> decide +kernel
  simp only [List.length_cons, List.length_nil, Nat.zero_add, Nat.reduceAdd, if_pos z5, wp_ok]
  refine wp_mono (pick (n := n) HD (Bag.gr B5 (.app _ _)) (by omega) get_last (by have := B5.lt; omega) (by simp) (by simp)) (fun d2 h6 y => ?_) fun _ _ y => y.elim
  obtain ⟨m2, B6, K6, l6⟩ := y
  simp only [wp_ok, List.length_cons, List.length_nil, Nat.zero_add, Nat.reduceAdd, if_pos z3, wps_nxt, List.set_cons_zero, List.set_cons_succ]
  generalize ho : List.length h6 = o
  generalize hh7 : h6 ++ [MO.lst [d0, d1, d2]] = h7
  have G7 : Gr h6 h7 := by rw [← hh7]; exact .app _ _
  have eo : h7[o]? = some (.lst [d0, d1, d2]) := by rw [← hh7, ← ho, ga0]; rfl
  have B7 := Bag.gr B6 G7
  have K7 : KeepB r h3 h7 := (((K4.trans K5).trans (.app _)).trans K6).trans G7.kb
  have l7 : o < h7.length := (List.getElem?_eq_some_iff.mp eo).1
  have os : s < o := by
    have := (List.getElem?_eq_some_iff.mp es).1
    rw [← ho, l6, List.length_append, l5, l4]
    omega
  clear hh7 G7
  rw [ss_cons]
  simp only [s_expr, e_bm, e_call, e_lst, e_tup, e_con, e_neg, e_bin, sub_int, es_cons, es_nil, e_slot, List.getElem?_cons_zero, List.getElem?_cons_succ, slotR_some, rb_ok, pw, List.length_cons, List.length_nil, Nat.zero_add, Nat.reduceAdd, if_pos z0, if_pos z1, if_pos z2, if_pos z3, if_pos z6, wps_sb, wps_rs, wp_rb, wp_ok, bmK, eo]
  refine wp_mono (pick (n := n) HD (Bag.gr B7 (.app _ _)) (by omega) get_last (by have := B7.lt; omega) (by simp) (by simp)) (fun d3 h8 y => ?_) fun _ _ y => y.elim
  obtain ⟨m3, B8, K8, l8⟩ := y
  have m3 : d3 ∈ some6 := m3
  have eo8 := K8.at_ o _ (by omega) ((Gr.app h7 _).get eo)
  have ap : bmD .append (.ref o) [d3] h8 = .ok .non (h8.set o (.lst [d0, d1, d2, d3])) := by
    simp only [bmD, bt1, appendM, eo8]
    exact if_pos (show 3 < sizeLine by rw [sizeLine_eq]; decide)
  simp only [wp_ok, ap, wps_nxt]
  generalize hh9 : h8.set o (.lst [d0, d1, d2, d3]) = h9
  have ro : r ≠ o := by omega
  have lo8 : o < h8.length := (List.getElem?_eq_some_iff.mp eo8).1
  have eo9 : h9[o]? = some (.lst [d0, d1, d2, d3]) := by rw [← hh9, List.getElem?_set_self lo8]
  have B9 : Bag r (k + 4) h9 := by
    obtain ⟨x1, x2, x3, e, x⟩ := B8.ex
    exact ⟨x1, x2, x3, by rw [← hh9, List.getElem?_set_ne (Ne.symm ro)]; exact e, x⟩
  have K9 : ∀ j u, j ≠ r → j < o → h3[j]? = some u → h9[j]? = some u := fun j u jr jo e => by
    rw [← hh9, List.getElem?_set_ne (by omega)]
    exact K8.at_ j u jr ((Gr.app h7 _).get (K7.at_ j u jr e))
  have L9 : h3.length ≤ h9.length := by
    rw [← hh9, List.length_set, l8, List.length_append]
    have := K7.len
    omega
  clear hh9
  rw [ss_cons]
  simp only [s_expr, e_bm, e_call, e_lst, e_tup, e_con, e_neg, e_bin, sub_int, es_cons, es_nil, e_slot, List.getElem?_cons_zero, List.getElem?_cons_succ, slotR_some, rb_ok, pw, List.length_cons, List.length_nil, Nat.zero_add, Nat.reduceAdd, if_pos z0, if_pos z1, if_pos z2, if_pos z3, if_pos z5, wps_sb, wps_rs, wp_rb, wp_ok, bmK, eo9]
  refine wp_mono (pick (n := n) HD (Bag.gr B9 (.app _ _)) (by omega) get_last (by have := B9.lt; omega) (by simp) (by simp)) (fun d4 h10 y => ?_) fun _ _ y => y.elim
  obtain ⟨m4, B10, K10, l10⟩ := y
  have S4 : ∀ {i : Int}, D.int i ∈ [D.int 1, D.int 2, D.int 7, D.int 61, D.int (10 ^ 39)] → i.natAbs.log2 < 1920 := fun {i} m => by
    simp only [List.mem_cons, List.not_mem_nil, or_false, D.int.injEq] at m
    rcases m with rfl | rfl | rfl | rfl | rfl <;> decide +kernel
  have eo10 := K10.at_ o _ (by omega) ((Gr.app h9 _).get eo9)
  have ap : bmD .append (.ref o) [d4] h10 = .ok .non (h10.set o (.lst [d0, d1, d2, d3, d4])) := by
    simp only [bmD, bt1, appendM, eo10]
    exact if_pos (show 4 < sizeLine by rw [sizeLine_eq]; decide)
  simp only [wp_ok, ap, wps_nxt]
  generalize hh11 : h10.set o (.lst [d0, d1, d2, d3, d4]) = h11
  have lo10 : o < h10.length := (List.getElem?_eq_some_iff.mp eo10).1
  have eo11 : h11[o]? = some (.lst [d0, d1, d2, d3, d4]) := by rw [← hh11, List.getElem?_set_self lo10]
  have B11 : Bag r (k + 5) h11 := by
    obtain ⟨x1, x2, x3, e, x⟩ := B10.ex
    exact ⟨x1, x2, x3, by rw [← hh11, List.getElem?_set_ne (Ne.symm ro)]; exact e, x⟩
  have K11 : ∀ j u, j ≠ r → j < o → h3[j]? = some u → h11[j]? = some u := fun j u jr jo e => by
    rw [← hh11, List.getElem?_set_ne (by omega)]
    exact K10.at_ j u jr ((Gr.app h9 _).get (K9 j u jr jo e))
  have L11 : h3.length ≤ h11.length := by
    rw [← hh11, List.length_set, l10, List.length_append]
    omega
  clear hh11
  have hint : ∀ {d : D} {l : List Int}, d ∈ l.map D.int → ∃ i, d = .int i ∧ i ∈ l := fun {d l} m => by
    obtain ⟨i, m', e⟩ := List.mem_map.mp m
    exact ⟨i, e.symm, m'⟩
  obtain ⟨i2, rfl, _⟩ := hint (l := [4, 8, 20, 64, 200]) m2
  obtain ⟨i4, rfl, _⟩ := hint (l := [1, 2, 7, 61, 10 ^ 39]) m4
  have qp : q = p + 1 := by omega
  have hps : p < s ∧ q < s := by omega
  have ep11 := K11 p _ (by omega) (by omega) ep
  have eq11 := K11 q _ (by omega) (by omega) eq
  have SM : ∀ H, Gr h11 H → ∀ x ∈ [d0, d1, D.int i2, d3, D.int i4], Sm H x := fun H G x m => by
    simp only [List.mem_cons, List.not_mem_nil, or_false] at m
    rcases m with rfl | rfl | rfl | rfl | rfl
    · exact sm10 (G.get ep11) (G.get eq11) m0
    · exact sm10 (G.get ep11) (G.get eq11) m1
    · exact sm_int (S2 m2)
    · exact sm6 m3
    · exact sm_int (S4 m4)
  clear K9 K10 K8 B8 B9 B10 eo8 eo9 eo10 L9
  -- the errors
  rw [ss_cons]
  have ix : ∀ (H : Hh), h11 = H → ∀ j d, L2.atI [d0, d1, D.int i2, d3, D.int i4] j = some d → idxD (.ref o) (.int j) H = .ok d H := fun H e j d a => idx_lst (by rw [← e]; exact eo11) a
  have j0 := ix h11 rfl 0 d0 rfl
  have j1 := ix h11 rfl 1 d1 rfl
  have j2 := ix h11 rfl 2 (.int i2) rfl
  have j3 := ix h11 rfl 3 d3 rfl
  have j4 := ix h11 rfl 4 (.int i4) rfl
  simp only [s_asg, e_lst, e_mkxO, e_idx, e_con, es_cons, es_nil, e_slot, List.length_cons, List.length_nil, Nat.zero_add, Nat.reduceAdd, List.getElem?_cons_zero, List.getElem?_cons_succ, List.set_cons_zero, List.set_cons_succ, slotR_some, rb_ok, rs_ok, sb_nxt, j0, j1, j2, j3, j4, if_pos z5]
  have hmm : (D.exn (Str.ofString "InvalidNumber") (Str.ofString "value") [d0] :: D.exn (Str.ofString "UnknownName") (Str.ofString "name") [d1] :: D.exn (Str.ofString "TooMany") (Str.ofString "limit") [D.int i2] :: D.exn (Str.ofString "Missing") (Str.ofString "answer") [d3] :: D.exn (Str.ofString "NothingToUndo") (Str.ofString "many") [D.int i4] :: []) = made5 [d0, d1, .int i2, d3, .int i4] := rfl
  rw [hmm]
  generalize hm : List.length h11 = m
  generalize hh12 : h11 ++ [MO.lst (made5 [d0, d1, .int i2, d3, .int i4])] = h12
  have G12 : Gr h11 h12 := by rw [← hh12]; exact .app _ _
  have em : h12[m]? = some (.lst (made5 [d0, d1, .int i2, d3, .int i4])) := by rw [← hh12, ← hm, ga0]; rfl
  clear hh12
  rw [ss_cons]
  simp only [s_asg, e_lst, e_tup, e_con, es_cons, es_nil, e_slot, List.length_cons, List.length_nil, Nat.zero_add, Nat.reduceAdd, List.getElem?_cons_zero, List.getElem?_cons_succ, List.set_cons_zero, List.set_cons_succ, slotR_some, rb_ok, rs_ok, sb_nxt, if_pos z1, if_pos z2, if_pos z5]
  have hbb : (D.tup [D.int 2, D.int 5] :: D.tup [D.int 3, D.int 5] :: D.tup [D.int 4, D.int 6] :: D.tup [D.int 5] :: D.tup [D.int 6] :: []) = bh5.map fun l => D.tup (l.map .int) := rfl
  rw [hbb]
  generalize hb : List.length h12 = b
  generalize hh13 : h12 ++ [MO.lst (bh5.map fun l => D.tup (l.map .int))] = h13
  have G13 : Gr h12 h13 := by rw [← hh13]; exact .app _ _
  have eb : h13[b]? = some (.lst (bh5.map fun l => D.tup (l.map .int))) := by rw [← hh13, ← hb, ga0]; rfl
  clear hh13
  have em13 := G13.get em
  rw [ss_cons, wps_sb, s_for, i_enm]
  simp only [e_slot, List.getElem?_cons_zero, List.getElem?_cons_succ, slotR_some, rb_ok]
  have we : wkEnm (.ref m) h13 = .ok (.enm (.ref m) 0 (made5 [d0, d1, .int i2, d3, .int i4]).length) h13 := by simp only [wkEnm, seqOf, em13]
  rw [we, rs_ok]
  simp only [Wk.len]
  refine for_enm (made5 [d0, d1, .int i2, d3, .int i4]) (fun i env H => (∃ a c, env = [some (.ref r), some (.ref s), some (.ref o), some (.ref m), some (.ref b), none, a, c]) ∧ Gr h13 H) (fun i env H y => y.2.get em13) ?_ ?_ ⟨⟨_, _, rfl⟩, .refl _⟩
  · rintro i d env H e ⟨⟨a, c, rfl⟩, G⟩
    obtain ⟨hi, c, f, y, sp, rfl, k1, k2, k3, k4⟩ := made_at rfl i d e
    obtain ⟨H1, f1, G1⟩ := flags_ne (n := n + 1) (h := H) (f := f) (xs := [y]) k1 k3
    obtain ⟨H2, f2, G2⟩ := bases_ne (n := n + 1) (h := H1) (f := f) (xs := [y]) k1 k4
    simp only [List.map_cons, List.map_nil] at f1
    obtain ⟨Hb, rb', eHb, _, gb⟩ := bases_ok (n := n + 1) (h := H1) (f := f) (xs := [y]) k1
    have ib : idxD (.ref b) (.int (i : Nat)) Hb = .ok (.tup (sp.map .int)) Hb := by
      refine idx_lst (xs := bh5.map fun l => D.tup (l.map .int)) ?_ ?_
      · exact ((G.trans G1).trans gb).get eb
      · exact L2.atI_nat (j := i) (by rw [List.getElem?_map, k2]; rfl)
    rw [eHb, rb_ok] at f2
    simp only [asgT, asgTs, List.set_cons_zero, List.set_cons_succ]
    rw [ss_cons, s_if]
    simp only [e_or, e_cmp, e_call, e_tup, e_con, e_idx, e_bin, add_int, es_cons, es_nil, e_slot, List.length_cons, List.length_nil, Nat.zero_add, Nat.reduceAdd, List.getElem?_cons_zero, List.getElem?_cons_succ, slotR_some, rb_ok, if_pos z1, if_pos z2, f1, eHb, ib, f2, tru_bl, Bool.false_eq_true, if_false, rs_ok, ss_nil, sb_nxt, wps_nxt]
    exact ⟨⟨_, _, rfl⟩, (G.trans G1).trans G2⟩
  · rintro env H ⟨⟨a, c, rfl⟩, G⟩
    have emH := G.get em13
    have jx : ∀ j d, L2.atI (made5 [d0, d1, D.int i2, d3, D.int i4]) j = some d → idxD (.ref m) (.int j) H = .ok d H := fun j d a => idx_lst emH a
    have j0 := jx 0 _ rfl
    have j1 := jx 1 _ rfl
    have j2 := jx 2 _ rfl
    have j3 := jx 3 _ rfl
    have j4 := jx 4 _ rfl
    have fl : ∀ c f y, pg.xf c f = true → fldD pg f (.exn c f [y]) H = .ok y H := fun c f y e => by
      simp only [fldD]
      rw [if_pos ⟨trivial, e⟩]
    have fl0 := fl (Str.ofString "InvalidNumber") (Str.ofString "value") d0 (by decide +kernel)
    have fl1 := fl (Str.ofString "UnknownName") (Str.ofString "name") d1 (by decide +kernel)
    have fl2 := fl (Str.ofString "TooMany") (Str.ofString "limit") (.int i2) (by decide +kernel)
    have fl3 := fl (Str.ofString "Missing") (Str.ofString "answer") d3 (by decide +kernel)
    have fl4 := fl (Str.ofString "NothingToUndo") (Str.ofString "many") (.int i4) (by decide +kernel)
    have GG : Gr h11 (H ++ [MO.lst [d0, d1, D.int i2, d3, D.int i4]]) := ((G12.trans G13).trans G).trans (.app _ _)
    obtain ⟨x, rx1, rx2, rx3⟩ := repr_same (h := H ++ [MO.lst [d0, d1, D.int i2, d3, D.int i4]]) (r := H.length) (q := o) (xs := [d0, d1, D.int i2, d3, D.int i4]) get_last (GG.get eo11) (by simp) (SM _ GG)
    dsimp only
    rw [ss_cons]
    simp only [s_asg, e_lst, e_fld, e_idx, e_con, es_cons, es_nil, e_slot, List.length_cons, List.length_nil, Nat.zero_add, Nat.reduceAdd, List.getElem?_cons_zero, List.getElem?_cons_succ, List.set_cons_zero, List.set_cons_succ, slotR_some, rb_ok, rs_ok, sb_nxt, j0, j1, j2, j3, j4, fl0, fl1, fl2, fl3, fl4, if_pos z5]
    rw [ss_cons, s_ret]
    simp only [e_cmp, e_bt, es_cons, es_nil, e_slot, List.getElem?_cons_zero, List.getElem?_cons_succ, slotR_some, rb_ok, rx1, rx2, rx3, rs_ok, sb_ret, wps_ret]
    refine ⟨trivial, Bag.gr B11 GG, ?_, fun j u jr e => ?_⟩
    · have := GG.ex
      obtain ⟨l, hl⟩ := this
      have l1 := K3.len
      rw [hl, List.length_append]
      omega
    · have lj := (List.getElem?_eq_some_iff.mp e).1
      exact GG.get (K11 j u jr (by omega) (K3.at_ j u jr e))
end
end K00
/-! integers, names, fractions: the defs of the names' module, for any program that has them -/
namespace MX
namespace Bas
open PySem L2
def intB : CSs := (.cons (.ret (.andE (.isi (.slot 0) .int) (.notE (.isi (.slot 0) .bool)))) .nil)
abbrev intD : FD := ⟨false, 1, 1, intB, none⟩
def btwB (ii : Nat) : CSs := (.cons (.ret (.andE (.call ii (.cons (.slot 0) .nil)) (.andE (.cmp .le (.slot 1) (.slot 0)) (.orE (.isN (.slot 2)) (.cmp .le (.slot 0) (.slot 2)))))) .nil)
abbrev btwD (ii : Nat) : FD := ⟨false, 3, 3, btwB ii, none⟩
def nmB : CSs := (.cons (.ret (.andE (.isi (.slot 0) .str) (.andE (.chain .le .le (.con (.int (1))) (.bt .len (.cons (.slot 0) .nil)) (.con (.int (8)))) (.bt .all (.cons (.comp (.cmp .isin (.slot 1) (.con (.str (Str.ofString "abcdefghijklmnopqrstuvwxyz")))) [1] (.name 1) (.seq (.slot 0)) .nil) .nil))))) .nil)
abbrev nmD : FD := ⟨false, 1, 2, nmB, none⟩
structure HN (pg : Pg) (ii ib im : Nat) : Prop where
  i : pg.fns[ii]? = some intD
  b : pg.fns[ib]? = some (btwD ii)
  m : pg.fns[im]? = some nmD
/-- grown at the end -/
structure Gr (h h' : Hh) : Prop where
  ex : ∃ l, h' = h ++ l
theorem Gr.refl (h : Hh) : Gr h h := ⟨[], by simp⟩
theorem Gr.trans {h h1 h2 : Hh} (a : Gr h h1) (b : Gr h1 h2) : Gr h h2 := by
  obtain ⟨l, rfl⟩ := a.ex
  obtain ⟨m, rfl⟩ := b.ex
  exact ⟨l ++ m, by simp⟩
theorem Gr.app (h l : Hh) : Gr h (h ++ l) := ⟨l, rfl⟩
theorem Gr.get {h h' : Hh} {r : Nat} {o : MO} (g : Gr h h') (e : h[r]? = some o) : h'[r]? = some o := by
  obtain ⟨l, rfl⟩ := g.ex
  rw [List.getElem?_append_left (List.getElem?_eq_some_iff.mp e).1]
  exact e
section
variable {pg : Pg} {ii ib im n : Nat} {h : Hh} {d : D}
/-- is it an integer, but no truth -/
def isI : D → Bool
  | .int _ => true
  | _ => false
/-- what can be asked for its type -/
def Tyd (h : Hh) : D → Prop
  | .ref r => ∃ o, h[r]? = some o ∧ ((∃ xs, o = .lst xs) ∨ (∃ kvs, o = .dct kvs))
  | .scr _ => False
  | .exn .. => False
  | _ => True
theorem Tyd.gr {h' : Hh} (t : Tyd h d) (g : Gr h h') : Tyd h' d := by
  cases d with
  | ref r =>
    obtain ⟨o, e, k⟩ := t
    exact ⟨o, g.get e, k⟩
  | _ => exact t
theorem isi_ok {t : Ty} (w : Tyd h d) : ∃ b, isTy h t d = some b := by
  cases d with
  | ref r =>
    obtain ⟨o, e, ⟨xs, rfl⟩ | ⟨kvs, rfl⟩⟩ := w
    · exact ⟨_, isTy_lst e⟩
    · exact ⟨_, isTy_dct e⟩
  | scr ns => exact w.elim
  | exn c f xs => exact w.elim
  | _ => exact ⟨_, rfl⟩
theorem int_ok (H : HN pg ii ib im) (w : Tyd h d) : cf pg n ii [d] h = .ok (.bl (isI d)) h := by
  rw [cf_eq H.i rfl rfl]
  cases d with
  | ref r =>
    obtain ⟨o, e, ⟨xs, rfl⟩ | ⟨kvs, rfl⟩⟩ := w
    · simp [intB, isTy_lst e, isI]
    · simp [intB, isTy_dct e, isI]
  | scr ns => exact w.elim
  | exn c f xs => exact w.elim
  | _ => simp [intB, isI]
theorem btw_non (H : HN pg ii ib im) {i lo : Int} : cf pg (n + 1) ib [.int i, .int lo, .non] h = .ok (.bl (decide (lo ≤ i))) h := by
  rw [cf_eq H.b rfl rfl]
  have i1 : cf pg n ii [.int i] h = .ok (.bl true) h := int_ok H (d := .int i) trivial
  by_cases z : lo ≤ i <;> simp [btwB, i1, z]
theorem btw_two (H : HN pg ii ib im) {i lo hi : Int} : cf pg (n + 1) ib [.int i, .int lo, .int hi] h = .ok (.bl (decide (lo ≤ i) && decide (i ≤ hi))) h := by
  rw [cf_eq H.b rfl rfl]
  have i1 : cf pg n ii [.int i] h = .ok (.bl true) h := int_ok H (d := .int i) trivial
  by_cases z : lo ≤ i <;> simp [btwB, i1, z]
theorem btw_no (H : HN pg ii ib im) (w : Tyd h d) (e : isI d = false) {lo hi : D} : cf pg (n + 1) ib [d, lo, hi] h = .ok (.bl false) h := by
  rw [cf_eq H.b rfl rfl]
  have i1 : cf pg n ii [d] h = .ok (.bl false) h := by rw [int_ok H w, e]
  simp [btwB, i1]
def letters : Str := Str.ofString "abcdefghijklmnopqrstuvwxyz"
def inL (c : Nat) : Bool := decide (c ∈ letters.cps.toList)
def allL (x : Str) : Bool := x.cps.toList.all inL
/-- a name -/
def nmS (x : Str) : Bool := decide (1 ≤ x.length) && (decide (x.length ≤ 8) && allL x)
def isNm : D → Bool
  | .str x => nmS x
  | _ => false
theorem in_sign {c : Nat} {h : Hh} : cmpD .isin (sign1 c) (.str letters) h = .ok (.bl (inL c)) h := rfl
def at1 (g : Nat → Option D) : D → Option D
  | .str ⟨⟨[c]⟩⟩ => g c
  | _ => none
theorem at1_sign {g : Nat → Option D} {c : Nat} : at1 g (sign1 c) = g c := rfl
theorem bools_on {α : Type} (f : α → Bool) : ∀ xs : List α, bools (xs.map fun x => D.bl (f x)) = some (xs.map f)
  | [] => rfl
  | x :: r => by
    simp only [List.map_cons, bools, bools_on f r, Option.map_some]
theorem all_on {α : Type} (f : α → Bool) (xs : List α) : (xs.map f).all id = xs.all f := by
  rw [List.all_map]
  rfl
theorem nm_str (H : HN pg ii ib im) {x : Str} (hl : x.length ≤ 1000) : ∃ g, cf pg n im [.str x] h = .ok (.bl (nmS x)) (h ++ g) := by
  rw [cf_eq H.m rfl rfl]
  have hz : x.length ≤ sizeLine := Nat.le_trans hl (by decide)
  have ln : btD .len [.str x] h = .ok (.int x.length) h := by simp only [btD, bt1, lenD, if_pos hz]
  have cl : (x.cps.toList.map sign1).length = x.length := by
    rw [List.length_map]
    rfl
  have cp := comp_pure (ev := E0 pg n) (elt := .cmp .isin (.slot 1) (.con (.str letters))) (own := [1]) (tg := .name 1) (cond := .nil) (env := [some (.str x), none]) (wk := .str x.cps.toList) (xs := x.cps.toList.map sign1) (h := h) (at1 fun c => some (.bl (inL c))) rfl (by rw [cl]; exact hz) (fun y hy acc => by
    obtain ⟨c, _, rfl⟩ := List.mem_map.mp hy
    rw [turn_eq (env' := [some (.str x), some (sign1 c)]) rfl]
    simp only [cond_nil, e_cmp, e_slot, e_con, List.getElem?_cons_succ, List.getElem?_cons_zero, slotR_some, rb_ok, in_sign, at1_sign]
    rfl)
  have fm : (x.cps.toList.map sign1).filterMap (at1 fun c => some (.bl (inL c))) = x.cps.toList.map fun c => D.bl (inL c) := by
    rw [List.filterMap_map]
    exact List.filterMap_eq_map' ▸ rfl
  rw [fm] at cp
  have cp' : loopC (turnM ⟨pg, tabs pg n, none, none⟩ (.cmp .isin (.slot 1) (.con (.str (Str.ofString "abcdefghijklmnopqrstuvwxyz")))) [1] (.name 1) .nil [some (.str x), none]) h.length (Wk.str x.cps.toList).len (.str x.cps.toList) (h ++ [.lst []]) = _ := cp
  have al : btD .all [.ref h.length] (h ++ [.lst (x.cps.toList.map fun c => D.bl (inL c))]) = .ok (.bl (allL x)) (h ++ [.lst (x.cps.toList.map fun c => D.bl (inL c))]) := by
    simp only [btD, bt1, get_last, bools_on, all_on]
    rfl
  unfold nmS
  by_cases h1 : 1 ≤ x.length
  · have i1 : (1 : Int) ≤ (x.length : Int) := by exact_mod_cast h1
    by_cases h2 : x.length ≤ 8
    · have i2 : (x.length : Int) ≤ 8 := by exact_mod_cast h2
      refine ⟨[.lst (x.cps.toList.map fun c => D.bl (inL c))], ?_⟩
      simp [nmB, ln, h1, h2, i1, i2, e_comp, wkOf, hz, cp', al]
    · have i2 : ¬ (x.length : Int) ≤ 8 := by omega
      refine ⟨[], ?_⟩
      simp [nmB, ln, h1, h2, i1, i2]
  · have i1 : ¬ (1 : Int) ≤ (x.length : Int) := by omega
    refine ⟨[], ?_⟩
    simp [nmB, ln, h1, i1]
theorem nm_ok (H : HN pg ii ib im) (w : Tyd h d) (wl : ∀ x, d = .str x → x.length ≤ 1000) : ∃ g, cf pg n im [d] h = .ok (.bl (isNm d)) (h ++ g) := by
  cases d with
  | str x => exact nm_str H (wl x rfl)
  | ref r =>
    rw [cf_eq H.m rfl rfl]
    refine ⟨[], ?_⟩
    obtain ⟨o, e, ⟨xs, rfl⟩ | ⟨kvs, rfl⟩⟩ := w
    · simp [nmB, isNm, isTy_lst, e]
    · simp [nmB, isNm, isTy_dct, e]
  | scr ns => exact w.elim
  | exn c f xs => exact w.elim
  | _ =>
    rw [cf_eq H.m rfl rfl]
    exact ⟨[], by simp [nmB, isNm]⟩
end
end Bas
end MX
namespace MX
namespace Bas
open PySem L2
def gcdB : CSs := (.cons (.whileS (.cmp .ne (.slot 1) (.con (.int (0)))) (.cons (.par [0, 1] (.cons (.slot 1) (.cons (.bin .mod (.slot 0) (.slot 1)) .nil))) .nil)) (.cons (.ret (.slot 0)) .nil))
abbrev gcdD : FD := ⟨false, 2, 2, gcdB, none⟩
def frB (ib ig : Nat) : CSs := (.cons (.ifS (.orE (.notE (.isi (.slot 0) .tuple)) (.orE (.cmp .ne (.bt .len (.cons (.slot 0) .nil)) (.con (.int (2)))) (.notE (.call ib (.cons (.idx (.slot 0) (.con (.int (0)))) (.cons (.con (.int (0))) (.cons (.con .non) .nil))))))) (.cons (.ret (.con (.bl false))) .nil) .nil) (.cons (.ret (.andE (.call ib (.cons (.idx (.slot 0) (.con (.int (1)))) (.cons (.con (.int (1))) (.cons (.con .non) .nil)))) (.cmp .eq (.call ig (.cons (.idx (.slot 0) (.con (.int (0)))) (.cons (.idx (.slot 0) (.con (.int (1)))) .nil))) (.con (.int (1)))))) .nil))
abbrev frD (ib ig : Nat) : FD := ⟨false, 1, 1, frB ib ig, none⟩
structure HG (pg : Pg) (ig : Nat) : Prop where
  g : pg.fns[ig]? = some gcdD
  W : 2 ^ 9000 < pg.W
section
variable {pg : Pg} {ii ib im ig ir n : Nat} {h : Hh} {d : D}
theorem gcd_ok (H : HG pg ig) {x y : Nat} (hy : y < 2 ^ 9000) : cf pg n ig [.int (x : Nat), .int (y : Nat)] h = .ok (.int (Nat.gcd x y : Nat)) h := by
  rw [cf_eq H.g rfl rfl]
  show retR (exSs (E0 pg n) gcdB [some (.int (x : Nat)), some (.int (y : Nat))] h) = _
  have key : wp (retR (exSs (E0 pg n) gcdB [some (.int (x : Nat)), some (.int (y : Nat))] h)) (fun d h' => d = .int (Nat.gcd x y : Nat) ∧ h' = h) (fun _ _ => False) := by
    rw [wp_ret]
    unfold gcdB
    rw [ss_cons, wps_sb, s_while]
    refine while_wp (fun N env h' => ∃ a b : Nat, env = [some (.int (a : Nat)), some (.int (b : Nat))] ∧ h' = h ∧ Nat.gcd a b = Nat.gcd x y ∧ N = b) ?_ _ y _ _ (Nat.lt_trans hy H.W) ⟨x, y, rfl, rfl, rfl, rfl⟩
    rintro N env h' ⟨a, b, rfl, rfl, e, rfl⟩
    rw [bind_rb]
    by_cases z : N = 0
    · subst z
      rw [Nat.gcd_zero_right] at e
      simp [e]
    · have m1 := mod_int (i := (a : Int)) (j := (N : Int)) (h := h') (by omega)
      have e1 : (a : Int) % (N : Int) = ((a % N : Nat) : Int) := by omega
      rw [e1] at m1
      simp only [e_cmp, e_slot, e_con, List.getElem?_cons_zero, List.getElem?_cons_succ, slotR_some, rb_ok, ne_int, tru_bl, wp_ok]
      rw [show (!decide ((N : Int) = 0)) = true by simpa using z]
      refine ⟨a % N, Nat.mod_lt _ (by omega), ?_⟩
      simp only [ss_cons, s_par, e_bin, e_slot, List.getElem?_cons_zero, List.getElem?_cons_succ, List.set_cons_zero, List.set_cons_succ, slotR_some, rb_ok, rs_ok, sb_nxt, m1, ss_nil, wps_nxt]
      exact ⟨N, a % N, rfl, trivial, by rw [← e, Nat.gcd_comm a N, Nat.gcd_rec N a, Nat.gcd_comm], rfl⟩
  cases e : retR (exSs (E0 pg n) gcdB [some (.int (x : Nat)), some (.int (y : Nat))] h) with
  | ok d h' =>
    rw [e] at key
    obtain ⟨rfl, rfl⟩ := key
    rfl
  | exc x h' =>
    rw [e] at key
    exact key.elim
  | bad =>
    rw [e] at key
    exact key.elim
/-- lowest terms -/
def frI (a b : Int) : Bool := decide (0 ≤ a) && (decide (1 ≤ b) && decide (Nat.gcd a.toNat b.toNat = 1))
def isTup : D → Bool
  | .tup _ => true
  | _ => false
theorem tup_ty (w : Tyd h d) : isTy h .tuple d = some (isTup d) := by
  cases d with
  | ref r =>
    obtain ⟨o, e, ⟨xs, rfl⟩ | ⟨kvs, rfl⟩⟩ := w
    · rw [isTy_lst e]
      rfl
    · rw [isTy_dct e]
      rfl
  | scr ns => exact w.elim
  | exn c f xs => exact w.elim
  | _ => rfl
theorem fr_not (K : pg.fns[ir]? = some (frD ib ig)) (w : Tyd h d) (e : isTup d = false) : cf pg n ir [d] h = .ok (.bl false) h := by
  rw [cf_eq K rfl rfl]
  have t := tup_ty w
  rw [e] at t
  simp [frB, t]
theorem fr_len (K : pg.fns[ir]? = some (frD ib ig)) {xs : List D} (e : xs.length ≠ 2) : cf pg n ir [.tup xs] h = .ok (.bl false) h := by
  rw [cf_eq K rfl rfl]
  have l : btD .len [.tup xs] h = .ok (.int xs.length) h := rfl
  have z : ¬ ((xs.length : Int) = 2) := by omega
  simp [frB, l, z]
theorem fr_two (H : HN pg ii ib im) (G : HG pg ig) (K : pg.fns[ir]? = some (frD ib ig)) {a b : Int} (hb : b < 2 ^ 9000) : cf pg (n + 2) ir [.tup [.int a, .int b]] h = .ok (.bl (frI a b)) h := by
  rw [cf_eq K rfl rfl]
  have l : btD .len [.tup [.int a, .int b]] h = .ok (.int 2) h := rfl
  have b1 := btw_non (n := n) (h := h) H (i := a) (lo := 0)
  have b2 := btw_non (n := n) (h := h) H (i := b) (lo := 1)
  unfold frI
  by_cases za : 0 ≤ a
  · by_cases zb : 1 ≤ b
    · obtain ⟨x, rfl⟩ := Int.eq_ofNat_of_zero_le za
      obtain ⟨y, rfl⟩ := Int.eq_ofNat_of_zero_le (show 0 ≤ b by omega)
      have g := gcd_ok (n := n + 1) (h := h) G (x := x) (y := y) (by exact_mod_cast hb)
      have k : ((Nat.gcd x y : Nat) : Int) = 1 ↔ Nat.gcd x y = 1 := by omega
      simp [frB, l, b1, b2, za, zb, g]
      by_cases c : Nat.gcd x y = 1
      · simp [c]
      · have c' : ¬ ((Nat.gcd x y : Nat) : Int) = 1 := fun z => c (k.mp z)
        simp [c, c']
    · simp [frB, l, b1, b2, za, zb]
  · simp [frB, l, b1, za]
end
end Bas
end MX
namespace MX
namespace Bas
open PySem L2
theorem get_app {h t : Hh} {r : Nat} {o : MO} (e : h[r]? = some o) : (h ++ t)[r]? = some o := (Gr.app h t).get e
/-- a comprehension whose turns lay lists behind -/
theorem comp_grow {ev : Ev} {elt : CE} {own : List Nat} {tg : Tg} {cond : CEs} {env : MX.Env} {wk : Wk} {xs : List D} {h : Hh} (g : D → Option D) (ew : ∀ acc t, wk.itH (h ++ [.lst acc] ++ t) = some xs) (hl : xs.length ≤ sizeLine)
    (ht : ∀ x ∈ xs, ∀ acc t, ∃ t', turnM ev elt own tg cond env x (h ++ [.lst acc] ++ t) = .ok (g x) (h ++ [.lst acc] ++ t')) :
    ∃ t, loopC (turnM ev elt own tg cond env) h.length wk.len wk (h ++ [.lst []]) = .ok () (h ++ [.lst (xs.filterMap g)] ++ t) := by
  have key : wp (loopC (turnM ev elt own tg cond env) h.length wk.len wk (h ++ [.lst []])) (fun a h' => a = () ∧ ∃ t, h' = h ++ [.lst (xs.filterMap g)] ++ t) (fun _ _ => False) := by
    refine loopC_wp (fun n wk' h' => ∃ zs ys acc t, xs = zs ++ ys ∧ n = ys.length ∧ acc = zs.filterMap g ∧ h' = h ++ [.lst acc] ++ t ∧ ∀ acc t, wk'.itH (h ++ [.lst acc] ++ t) = some ys) ?_ _ _ _ ⟨[], xs, [], [], rfl, itH_len (ew [] []), rfl, by rw [List.append_nil], ew⟩
    rintro n wk' h' ⟨zs, ys, acc, t, e1, rfl, e2, rfl, e3⟩
    cases ys with
    | nil =>
      rw [itH_nil (e3 acc t)]
      refine ⟨rfl, t, ?_⟩
      rw [e1, e2, List.append_nil]
    | cons d ys =>
      obtain ⟨wk2, f1, f2⟩ := itH_cons (e3 acc t)
      rw [f1]
      refine ⟨ys.length, rfl, ?_⟩
      obtain ⟨t', ht'⟩ := ht d (by rw [e1]; simp) acc t
      rw [ht']
      have lz : acc.length < sizeLine := by
        have h1 := List.length_filterMap_le g zs
        rw [← e2] at h1
        have h2 := congrArg List.length e1
        rw [List.length_append, List.length_cons] at h2
        omega
      have e4 : ∀ acc t, wk2.itH (h ++ [.lst acc] ++ t) = some ys := fun acc t => f2 _ _ (e3 acc t)
      cases eg : g d with
      | none => exact ⟨zs ++ [d], ys, acc, t', by rw [e1]; simp, rfl, by rw [e2]; simp [eg], rfl, e4⟩
      | some y =>
        have gl : (h ++ [MO.lst acc] ++ t')[h.length]? = some (.lst acc) := get_app get_last
        have sl : (h ++ [MO.lst acc] ++ t').set h.length (.lst (acc ++ [y])) = h ++ [.lst (acc ++ [y])] ++ t' := by
          rw [List.set_append_left _ _ (by simp), set_last]
        exact ⟨acc, gl, lz, zs ++ [d], ys, acc ++ [y], t', by rw [e1]; simp, rfl, by rw [e2]; simp [eg], sl, e4⟩
  cases e : loopC (turnM ev elt own tg cond env) h.length wk.len wk (h ++ [.lst []]) with
  | ok a h' =>
    rw [e] at key
    obtain ⟨rfl, t, rfl⟩ := key
    exact ⟨t, rfl⟩
  | exc x h' =>
    rw [e] at key
    exact key.elim
  | bad =>
    rw [e] at key
    exact key.elim

/-! ### dict comprehensions -/
section
variable {ev : Ev} {ke ve : CE} {own : List Nat} {tg : Tg} {it : It} {env env' : MX.Env} {h : Hh}
theorem e_dcomp : evE ev (.dcomp ke ve own tg it) env h = rb (evI ev it env h) fun wk h => rb (loopD (turnD ev ke ve own tg env) h.length wk.len wk (h ++ [.dcm []])) fun _ h' => sealM h.length h' := by
  rw [dcomp_eq]
  simp only [bind_rb]
  congr 1
theorem loopD_stop {turn : D → M (Str × D)} {r n : Nat} {wk : Wk} {h : Hh} (e : wk.next h = some none) : loopD turn r n wk h = .ok () h := by
  rw [loopD.eq_def]
  simp only [e]
theorem loopD_step {turn : D → M (Str × D)} {r m : Nat} {wk wk' : Wk} {h : Hh} {d : D} (e : wk.next h = some (some (d, wk'))) : loopD turn r (m + 1) wk h = rb (turn d h) fun p h' => rb (putM r p.1 p.2 h') fun _ h' => loopD turn r m wk' h' := by
  rw [loopD.eq_def]
  simp only [e, bind_rb]
theorem turnD_eq {v : D} (e : asgT tg v (wipeE env own) = some env') : turnD ev ke ve own tg env v h = nx (rb (evE ev ke env' h) fun k h => match k with
    | .str x => rb (evE ev ve env' h) fun y h => .ok (x, y) h
    | _ => .bad) := by
  unfold turnD
  rw [noX_nx, e]
  simp only [bind_rb]
  congr 2
  funext k h
  cases k <;> first | rfl | (simp only [bind_rb]; rfl)
theorem put_one {h : Hh} {x : Str} {v : D} : putM h.length x v (h ++ [.dcm []]) = .ok () (h ++ [.dcm [(.str x, v)]]) := by
  simp only [putM, get_last]
  rw [if_pos (show ([] : List (D × D)).length < sizeLine by rw [sizeLine_eq]; exact Nat.zero_lt_succ _), set_last]
  rfl
theorem seal_last {h : Hh} {kvs : List (D × D)} : sealM h.length (h ++ [.dcm kvs]) = .ok (.ref h.length) (h ++ [.dct kvs]) := by
  simp only [sealM, get_last, set_last]
end
end Bas
end MX
namespace K00
open PySem L2 MX MX.Drw
open MX.Bas (HN HG Tyd isI nmS isTup tup_ty btw_two btw_no nm_str frI comp_grow e_dcomp loopD_stop loopD_step turnD_eq put_one seal_last)
theorem HNn : HN pg 1 2 3 := ⟨rfl, rfl, rfl⟩
theorem HGg : HG pg 4 := ⟨rfl, by show 2 ^ 9000 < 10 ^ 5000; decide +kernel⟩
section
variable {n r k p q o : Nat} {h h' : Hh} {ev : Ev} {env : MX.Env} {a : CE} {t c f : Str} {xs : List D} {b : Bool} {d v : D} {x : Str}
theorem tables_not (w : isTy h .dict d = some false) : cf pg n 9 [d] h = .ok (.bl false) h := by
  rw [cf_eq (fd := d9) rfl rfl rfl]
  simp [d9, b9, w]
theorem tables_empty (e : h[r]? = some (.dct [])) : cf pg n 9 [.ref r] h = .ok (.bl false) h := by
  rw [cf_eq (fd := d9) rfl rfl rfl]
  have w := isTy_dct (t := .dict) e
  have l : btD .len [.ref r] h = .ok (.int 0) h := by simp only [btD, bt1, lenD, e] <;> rfl
  simp [d9, b9, w, l]
/-- a place's number -/
def plc : D → Bool
  | .int i => decide (0 ≤ i) && decide (i ≤ 3)
  | _ => false
theorem btw3 (w : Tyd h v) : cf pg (n + 1) 2 [v, .int 0, .int 3] h = .ok (.bl (plc v)) h := by
  cases v with
  | int i => exact btw_two HNn
  | _ => exact btw_no HNn w rfl
theorem tables_one (e : h[r]? = some (.dct [(.str x, v)])) (hx : x.length ≤ 1000) (w : ∀ t, Tyd (h ++ t) v) : ∃ g, cf pg (n + 2) 9 [.ref r] h = .ok (.bl (nmS x && plc v)) (h ++ g) := by
  rw [cf_eq (fd := d9) rfl rfl rfl]
  have i1 : isTy h .dict (.ref r) = some true := isTy_dct (t := .dict) e
  have c1 : decide ((1 : Int) ≤ 1) = true := by decide
  have c2 : decide ((1 : Int) ≤ 8) = true := by decide
  have l : btD .len [.ref r] h = .ok (.int 1) h := by simp only [btD, bt1, lenD, e] <;> rfl
  have ap : ∀ t, (h ++ t)[r]? = some (.dct [(.str x, v)]) := fun t => (Gr.app h t).get e
  have wk : wkOf (.ref r) h = .ok (.key r 0 1) h := by simp only [wkOf, e] <;> rfl
  obtain ⟨t, cp⟩ := comp_grow (ev := MX.E0 pg (n + 2)) (elt := (.andE (.call 3 (.cons (.slot 1) .nil)) (.call 2 (.cons (.idx (.slot 0) (.slot 1)) (.cons (.con (.int (0))) (.cons (.con (.int (3))) .nil)))))) (own := [1]) (tg := .name 1) (cond := .nil) (env := [some (.ref r), none]) (wk := .key r 0 1) (xs := [.str x]) (h := h) (fun _ => some (.bl (nmS x && plc v))) (fun acc t => by
      simp only [Wk.itH, List.append_assoc, ap]
      rfl) (by simpa using z 1 (by decide)) (fun y hy acc t => by
      have hy : y = .str x := by simpa using hy
      subst hy
      obtain ⟨g, e1⟩ := nm_str (n := n + 1) (h := h ++ [.lst acc] ++ t) HNn (x := x) hx
      have ix : idxD (.ref r) (.str x) (h ++ [.lst acc] ++ t ++ g) = .ok v (h ++ [.lst acc] ++ t ++ g) := by
        simp only [List.append_assoc, idxD, ap]
        simp [dget, txIs]
      have e2 := btw3 (n := n) (h := h ++ [.lst acc] ++ t ++ g) (v := v) (by simp only [List.append_assoc]; exact w _)
      refine ⟨t ++ g, ?_⟩
      rw [turn_eq (env' := [some (.ref r), some (.str x)]) rfl]
      cases hb : nmS x with
      | true =>
        rw [hb] at e1
        simp only [cond_nil, rb_ok, if_true, e_and, e_call, e_idx, e_con, es_cons, es_nil, e_slot, List.getElem?_cons_zero, List.getElem?_cons_succ, slotR_some, e1, ix, e2, tru_bl, nx_ok, Bool.true_and]
        rw [List.append_assoc]
      | false =>
        rw [hb] at e1
        simp only [cond_nil, rb_ok, if_true, e_and, e_call, e_idx, e_con, es_cons, es_nil, e_slot, List.getElem?_cons_zero, List.getElem?_cons_succ, slotR_some, e1, tru_bl, Bool.false_eq_true, if_false, nx_ok, Bool.false_and]
        rw [List.append_assoc])
  refine ⟨[.lst [.bl (nmS x && plc v)]] ++ t, ?_⟩
  have cp : loopC (turnM (MX.E0 pg (n + 2)) (.andE (.call 3 (.cons (.slot 1) .nil)) (.call 2 (.cons (.idx (.slot 0) (.slot 1)) (.cons (.con (.int (0))) (.cons (.con (.int (3))) .nil))))) [1] (.name 1) .nil [some (.ref r), none]) h.length (Wk.key r 0 1).len (.key r 0 1) (h ++ [.lst []]) = .ok () (h ++ [.lst [.bl (nmS x && plc v)]] ++ t) := cp
  have gl : (h ++ [MO.lst [D.bl (nmS x && plc v)]] ++ t)[h.length]? = some (.lst [.bl (nmS x && plc v)]) := by rw [List.append_assoc, ga0]; rfl
  have al : btD .all [.ref h.length] (h ++ [.lst [.bl (nmS x && plc v)]] ++ t) = .ok (.bl (nmS x && plc v)) (h ++ [.lst [.bl (nmS x && plc v)]] ++ t) := by
    have := all_is (h := h ++ [MO.lst [D.bl (nmS x && plc v)]] ++ t) (r := h.length) (bs := [nmS x && plc v]) gl
    rw [this]
    simp
  simp only [d9, b9, ss_cons, s_if, s_ret, e_or, e_not, e_isi, e_chain, e_bt, e_comp, e_con, i_seq, es_cons, es_nil, e_slot, List.map_cons, List.map_nil, List.length_cons, List.length_nil, Nat.zero_add, Nat.reduceAdd, Nat.reduceSub, List.replicate, List.cons_append, List.nil_append, List.getElem?_cons_zero, List.getElem?_cons_succ, slotR_some, rb_ok, rs_ok, i1, l, le_int, c1, c2, tru_bl, Bool.not_true, Bool.false_eq_true, if_false, wk, cp, al, ss_nil, sb_nxt, sb_ret, ret_ret]
  rw [List.append_assoc]
  rfl
theorem keys_nil {d : D} (e : h[q]? = some (.dct [])) : cf pg n 10 [d, .ref q] h = .ok (.bl true) (h ++ [.lst [], .lst []]) := by
  rw [cf_eq (fd := d10) rfl rfl rfl]
  have i1 : isTy h .dict (.ref q) = some true := isTy_dct (t := .dict) e
  have ap : ∀ t, (h ++ t)[q]? = some (.dct []) := fun t => (Gr.app h t).get e
  have wk : ∀ t, wkOf (.ref q) (h ++ t) = .ok (.key q 0 0) (h ++ t) := fun t => by simp only [wkOf, ap] <;> rfl
  have wk0 := wk []
  rw [List.append_nil] at wk0
  have lp : ∀ (t : D → M (Option D)) (r : Nat) (H : Hh), (Gr h H) → loopC t r (Wk.key q 0 0).len (.key q 0 0) H = .ok () H := fun t r H G => loopC_stop (by
    simp only [Wk.next, G.get e] <;> rfl)
  have al : ∀ H : Hh, btD .all [.ref (List.length H)] (H ++ [.lst []]) = .ok (.bl true) (H ++ [.lst []]) := fun H => all_is (bs := []) get_last
  have g1 : Gr h (h ++ [MO.lst []]) := .app _ _
  have g2 : Gr h (h ++ [MO.lst []] ++ [MO.lst []]) := g1.trans (.app _ _)
  have wk1 : wkOf (.ref q) (h ++ [MO.lst []]) = .ok (.key q 0 0) (h ++ [MO.lst []]) := wk _
  simp only [d10, b10, ss_cons, s_if, s_ret, e_or, e_not, e_isi, e_bt, e_comp, e_con, i_seq, es_cons, es_nil, e_slot, List.map_cons, List.map_nil, List.length_cons, List.length_nil, Nat.zero_add, Nat.reduceAdd, Nat.reduceSub, List.replicate, List.cons_append, List.nil_append, List.getElem?_cons_zero, List.getElem?_cons_succ, slotR_some, rb_ok, rs_ok, i1, tru_bl, Bool.not_true, Bool.false_eq_true, if_false, wk0, wk1, lp _ _ _ g1, lp _ _ _ g2, al, ss_nil, sb_nxt, sb_ret, ret_ret]
  rw [List.append_assoc]
  rfl
theorem tup0_all {H : Hh} {t : D → M (Option D)} {r : Nat} : loopC t r (Wk.tup []).len (.tup []) H = .ok () H := loopC_stop rfl
theorem caps_nil {d : D} : ∃ h', cf pg n 13 [d, .tup []] h = .ok (.tup []) h' ∧ Gr h h' := by
  rw [cf_eq (fd := d13) rfl rfl rfl]
  have wk : ∀ H : Hh, wkOf (.tup []) H = .ok (.tup []) H := fun H => rfl
  have al : ∀ H : Hh, btD .all [.ref (List.length H)] (H ++ [.lst []]) = .ok (.bl true) (H ++ [.lst []]) := fun H => all_is (bs := []) get_last
  have ld : ∀ (t : D → M (Str × D)) (r : Nat) (H : Hh), loopD t r (Wk.tup []).len (.tup []) H = .ok () H := fun t r H => loopD_stop rfl
  have ln : ∀ H : Hh, btD .len [.ref (List.length H)] (H ++ [.dct []]) = .ok (.int 0) (H ++ [.dct []]) := fun H => by simp only [btD, bt1, lenD, get_last] <;> rfl
  have li : ∀ H : Hh, btD .list [.ref (List.length H)] (H ++ [.dct []]) = .ok (.ref (List.length (H ++ [MO.dct []]))) (H ++ [.dct []] ++ [.lst []]) := fun H => by simp only [btD, bt1, get_last, MX.alloc, List.map_nil] <;> rfl
  have so : ∀ H : Hh, btD .sorted [.ref (List.length H)] (H ++ [.lst []]) = .ok (.ref (List.length (H ++ [MO.lst []]))) (H ++ [.lst []] ++ [.lst []]) := fun H => by simp only [btD, bt1, get_last, MX.alloc]
  have tu : ∀ H : Hh, btD .tuple [.ref (List.length H)] (H ++ [.lst []]) = .ok (.tup []) (H ++ [.lst []]) := fun H => by simp only [btD, bt1, seqOf, get_last]
  have c6 : decide ((6 : Int) < 0) = false := by decide
  have it : ∀ (H : Hh) xs, isTy H .tuple (.tup xs) = some true := fun H xs => rfl
  simp only [d13, b13, ss_cons, s_if, s_ret, s_asg, e_or, e_not, e_isi, e_bt, e_comp, e_dcomp, e_con, e_cmp, i_seq, it, es_cons, es_nil, e_slot, List.map_cons, List.map_nil, List.length_cons, List.length_nil, Nat.zero_add, Nat.reduceAdd, Nat.reduceSub, List.replicate, List.cons_append, List.nil_append, List.getElem?_cons_zero, List.getElem?_cons_succ, List.set_cons_zero, List.set_cons_succ, slotR_some, rb_ok, rs_ok, tru_bl, Bool.not_true, Bool.false_eq_true, if_false, wk, tup0_all, al, ld, seal_last, ln, gt_int, c6, li, so, tu, ss_nil, sb_nxt, sb_ret, ret_ret]
  refine ⟨_, rfl, ?_⟩
  simp only [List.append_assoc]
  exact .app _ _
theorem asc_nil (e : h[q]? = some (.dct [])) : ∃ h' r, cf pg n 12 [.ref q] h = .ok (.ref r) h' ∧ Gr h h' := by
  rw [cf_eq (fd := d12) rfl rfl rfl]
  have li : btD .list [.ref q] h = .ok (.ref (List.length h)) (h ++ [.lst []]) := by simp only [btD, bt1, e, MX.alloc, List.map_nil] <;> rfl
  have so : ∀ H : Hh, btD .sorted [.ref (List.length H)] (H ++ [.lst []]) = .ok (.ref (List.length (H ++ [MO.lst []]))) (H ++ [.lst []] ++ [.lst []]) := fun H => by simp only [btD, bt1, get_last, MX.alloc]
  have wk : ∀ H : Hh, wkOf (.ref (List.length H)) (H ++ [.lst []]) = .ok (.lst (List.length H) 0 0) (H ++ [.lst []]) := fun H => by simp only [wkOf, get_last] <;> rfl
  have ld : ∀ (t : D → M (Str × D)) (r : Nat) (H : List MO) (o : MO), loopD t r (Wk.lst (List.length H) 0 0).len (.lst (List.length H) 0 0) (H ++ [.lst []] ++ [o]) = .ok () (H ++ [.lst []] ++ [o]) := fun t r H o => loopD_stop (by
    have : (H ++ [MO.lst []] ++ [o])[List.length H]? = some (.lst []) := by rw [List.append_assoc, ga0]; rfl
    simp only [Wk.next, seqOf, this] <;> rfl)
  simp only [d12, b12, ss_cons, s_ret, e_bt, e_dcomp, i_seq, es_cons, es_nil, e_slot, List.map_cons, List.map_nil, List.length_cons, List.length_nil, Nat.zero_add, Nat.reduceAdd, Nat.reduceSub, List.replicate, List.cons_append, List.nil_append, List.getElem?_cons_zero, List.getElem?_cons_succ, slotR_some, rb_ok, rs_ok, li, so, wk, ld, seal_last, sb_ret, ret_ret]
  refine ⟨_, _, rfl, ?_⟩
  simp only [List.append_assoc]
  exact .app _ _
theorem asc_one (e : h[q]? = some (.dct [(.str x, v)])) : ∃ h' r, cf pg n 12 [.ref q] h = .ok (.ref r) h' ∧ Gr h h' := by
  rw [cf_eq (fd := d12) rfl rfl rfl]
  have li : btD .list [.ref q] h = .ok (.ref (List.length h)) (h ++ [.lst [.str x]]) := by simp only [btD, bt1, e, MX.alloc, List.map_cons, List.map_nil]
  have so : ∀ H : Hh, btD .sorted [.ref (List.length H)] (H ++ [.lst [.str x]]) = .ok (.ref (List.length (H ++ [MO.lst [.str x]]))) (H ++ [.lst [.str x]] ++ [.lst [.str x]]) := fun H => by simp only [btD, bt1, get_last, MX.alloc]
  have wk : ∀ H : Hh, wkOf (.ref (List.length H)) (H ++ [.lst [.str x]]) = .ok (.lst (List.length H) 0 1) (H ++ [.lst [.str x]]) := fun H => by simp only [wkOf, get_last] <;> rfl
  generalize hH : h ++ [MO.lst [.str x]] = H at *
  have eH : H[q]? = some (.dct [(.str x, v)]) := by rw [← hH]; exact (Gr.app h _).get e
  have gl : ∀ t : Hh, (H ++ [MO.lst [.str x]] ++ t)[List.length H]? = some (.lst [.str x]) := fun t => by rw [List.append_assoc, ga0]; rfl
  have so1 : btD .sorted [.ref (List.length h)] H = .ok (.ref (List.length H)) (H ++ [.lst [.str x]]) := by
    have := so h
    rw [hH] at this
    exact this
  have n1 : ∀ t, Wk.next (H ++ [MO.lst [.str x]] ++ t) (.lst (List.length H) 0 1) = some (some (.str x, .lst (List.length H) 1 0)) := fun t => by
    simp only [Wk.next, seqOf, gl] <;> rfl
  have n2 : ∀ t, Wk.next (H ++ [MO.lst [.str x]] ++ t) (.lst (List.length H) 1 0) = some none := fun t => by
    simp only [Wk.next, seqOf, gl] <;> rfl
  have ix : ∀ t : Hh, idxD (.ref q) (.str x) (H ++ t) = .ok v (H ++ t) := fun t => by
    have := (Gr.app H t).get eH
    simp only [idxD, this]
    simp [dget, txIs]
  have tn := turnD_eq (ev := MX.E0 pg n) (ke := .slot 1) (ve := .idx (.slot 0) (.slot 1)) (own := [1]) (tg := .name 1) (env := [some (.ref q), none]) (env' := [some (.ref q), some (.str x)]) (h := H ++ [MO.lst [.str x]] ++ [.dcm []]) (v := .str x) rfl
  have ix1 := ix ([MO.lst [.str x]] ++ [.dcm []])
  rw [← List.append_assoc] at ix1
  simp only [e_idx, e_slot, List.getElem?_cons_zero, List.getElem?_cons_succ, slotR_some, rb_ok, ix1, nx_ok] at tn
  have ld : loopD (turnD (MX.E0 pg n) (.slot 1) (.idx (.slot 0) (.slot 1)) [1] (.name 1) [some (.ref q), none]) (List.length (H ++ [MO.lst [.str x]])) (Wk.lst (List.length H) 0 1).len (.lst (List.length H) 0 1) (H ++ [MO.lst [.str x]] ++ [.dcm []]) = .ok () (H ++ [MO.lst [.str x]] ++ [.dcm [(.str x, v)]]) := by
    show loopD _ _ (0 + 1) _ _ = _
    rw [loopD_step (n1 _), tn, rb_ok, put_one, rb_ok, loopD_stop (n2 _)]
  simp only [d12, b12, ss_cons, s_ret, e_bt, e_dcomp, i_seq, es_cons, es_nil, e_slot, List.map_cons, List.map_nil, List.length_cons, List.length_nil, Nat.zero_add, Nat.reduceAdd, Nat.reduceSub, List.replicate, List.cons_append, List.nil_append, List.getElem?_cons_zero, List.getElem?_cons_succ, slotR_some, rb_ok, rs_ok, li, so1, wk, ld, seal_last, sb_ret, ret_ret]
  refine ⟨_, _, rfl, ?_⟩
  rw [← hH]
  simp only [List.append_assoc]
  exact .app _ _
end
end K00
namespace K00
open PySem L2 MX MX.Drw
open MX.Bas (HN HG Tyd isI nmS isTup tup_ty btw_two btw_no nm_str frI comp_grow e_dcomp loopD_stop loopD_step turnD_eq put_one seal_last fr_not fr_len fr_two)
section
variable {n r k p q o : Nat} {h h' : Hh} {ev : Ev} {env : MX.Env} {a : CE} {t c f : Str} {xs : List D} {b : Bool} {d v : D} {x : Str}
@[simp] theorem e_lam {pg : Pg} {n g : Nat} {t : Option (M D)} {x : Option XV} {body : CE} : evE ⟨pg, tabs pg (n + 2), t, x⟩ (.lam g body) env h = (mkCl pg (tabs pg (n + 1))).callL g (evE ⟨pg, tabs pg n, t, x⟩ body env) h := by simp only [evE, tabs]
/-- the call of a thunk that raises a DearError -/
theorem taken_exc {m : M D} {x : XV} {h1 : Hh} (e : m h = .exc x h1) (hs : pg.sub x.cls 0 = true) (hc : pg.nam x.cls ∈ clsN) : ∃ h' r, (mkCl pg (tabs pg (k + 1))).callL 24 m h = .ok (.ref r) h' ∧ h'[r]? = some (.lst ((nm14.map (T (pg.nam x.cls))).map .bl)) ∧ Gr h1 h' := by
  obtain ⟨h2, r, e2, o2, g2⟩ := hot_ok (n := k) (h := h1) hc
  refine ⟨h2, r, ?_, o2, g2⟩
  show retR (exSs ⟨pg, tabs pg (k + 1), some m, none⟩ b24 (List.replicate 2 none) h) = _
  have tr : exS ⟨pg, tabs pg (k + 1), some m, none⟩ (.tryS (.cons (.expr .act) .nil) (.cons 0 (some 1) (.cons (.ret (.hcl 19)) .nil) .nil)) (List.replicate 2 none) h = .ret (.ref r) h2 := by
    have b1 : exSs ⟨pg, tabs pg (k + 1), some m, none⟩ (.cons (.expr .act) .nil) (List.replicate 2 none) h = .exc x (List.replicate 2 none) h1 := by
      simp only [ss_cons, s_expr, evE, e, rs_exc, sb_exc]
    have b2 : exSs ⟨pg, tabs pg (k + 1), some m, some x⟩ (.cons (.ret (.hcl 19)) .nil) ((List.replicate 2 none).set 1 none) h1 = .ret (.ref r) h2 := by
      simp only [ss_cons, s_ret, evE, tabs]
      rw [show (mkCl pg (tabs pg k)).callH 19 x h1 = _ from e2]
      simp only [rs_ok, sb_ret]
    simp only [exS, b1, exH, hs, b2]
  simp only [b24, ss_cons, tr, sb_ret, ret_ret]
theorem taken_ok {m : M D} {h1 : Hh} (e : m h = .ok v h1) : (mkCl pg (tabs pg (k + 1))).callL 24 m h = .ok (.ref h1.length) (h1 ++ [.lst []]) := by
  show retR (exSs ⟨pg, tabs pg (k + 1), some m, none⟩ b24 (List.replicate 2 none) h) = _
  have z0 := z 0 (by decide)
  have tr : exS ⟨pg, tabs pg (k + 1), some m, none⟩ (.tryS (.cons (.expr .act) .nil) (.cons 0 (some 1) (.cons (.ret (.hcl 19)) .nil) .nil)) (List.replicate 2 none) h = .nxt (List.replicate 2 none) h1 := by
    have b1 : exSs ⟨pg, tabs pg (k + 1), some m, none⟩ (.cons (.expr .act) .nil) (List.replicate 2 none) h = .nxt (List.replicate 2 none) h1 := by
      simp only [ss_cons, s_expr, evE, e, rs_ok, sb_nxt, ss_nil]
    simp only [exS, b1]
  simp only [b24, ss_cons, tr, sb_nxt, s_ret, e_lst, es_nil, rb_ok, List.length_nil, if_pos z0, rs_ok, sb_ret, ret_ret]
/-! ### Schema -/
theorem init_bad (T9 : ∃ H', cf pg n 9 [d] (h ++ [.dct []]) = .ok (.bl false) H' ∧ Gr (h ++ [.dct []]) H') : ∃ h', cf pg (n + 1) 26 [.ref r, d, .non, .tup []] h = .exc ⟨1, []⟩ h' ∧ Gr h h' := by
  obtain ⟨H', e, g⟩ := T9
  refine ⟨H', ?_, (Gr.app h _).trans g⟩
  rw [cf_eq (fd := d26) rfl rfl rfl]
  simp only [d26, b26, ss_cons, s_asg, s_if, e_ife, e_isN, e_edct, e_or, e_not, e_call, es_cons, es_nil, e_slot, s_raiseM, List.map_cons, List.map_nil, List.length_cons, List.length_nil, Nat.zero_add, Nat.reduceAdd, Nat.reduceSub, List.replicate, List.cons_append, List.nil_append, List.getElem?_cons_zero, List.getElem?_cons_succ, List.set_cons_zero, List.set_cons_succ, slotR_some, rb_ok, rs_ok, tru_bl, if_true, sb_nxt, e, Bool.not_false, sb_exc, ret_exc]
theorem make_bad (T9 : ∀ H, Gr h H → ∃ H', cf pg n 9 [d] H = .ok (.bl false) H' ∧ Gr H H') (e : ∀ E : MX.Env, E = env → evE (MX.E0 pg (n + 3)) a E h = .ok d h) : ∃ h', evE (MX.E0 pg (n + 3)) (.make 0 (.cons a .nil)) env h = .exc ⟨1, []⟩ h' ∧ Gr h h' := by
  obtain ⟨h', e1, g⟩ := init_bad (n := n) (h := h ++ [.ins 0 []]) (r := h.length) (T9 _ ((Gr.app h _).trans (.app _ _)))
  refine ⟨h', ?_, (Gr.app h _).trans g⟩
  have ei : pg.ini 0 = some 26 := rfl
  have ed : pg.dfl 26 = [.non, .tup []] := rfl
  rw [e_make]
  simp only [es_cons, es_nil, e env rfl, rb_ok, ei, ed, List.cons_append, List.nil_append, e1, rb_exc]
theorem put_ok {F : List (Str × D)} {g : Str} (e : h[r]? = some (.ins 0 F)) (l : F.length < 900) : setFD pg g (.ref r) v h = .ok () (h.set r (.ins 0 (putA g v F))) := setF_ok e rfl l
/-- Schema({name: places}) -/
theorem init_good (e : h[q]? = some (.dct [(.str x, v)])) (hx : x.length ≤ 1000) (w : ∀ t, Tyd (h ++ t) v) (o : (nmS x && plc v) = true) (er : h[r]? = some (.ins 0 [])) : ∃ h', cf pg (n + 3) 26 [.ref r, .ref q, .non, .tup []] h = .ok .non h' := by
  have rq : r ≠ q := fun z => by
    rw [z, e] at er
    cases er
  obtain ⟨g9, e9⟩ := tables_one (n := n) (h := h ++ [MO.dct []]) (r := q) (x := x) (v := v) ((Gr.app h _).get e) hx (fun t => by rw [List.append_assoc]; exact w _)
  rw [show (nmS x && plc v) = true from o] at e9
  generalize hH : h ++ [MO.dct []] ++ g9 = H at *
  have GH : Gr h H := by rw [← hH, List.append_assoc]; exact .app _ _
  have eL : H[List.length h]? = some (.dct []) := by rw [← hH, List.append_assoc, ga0]; rfl
  have e10 := keys_nil (n := n + 2) (h := H) (q := List.length h) (d := .ref q) eL
  generalize hH1 : H ++ [MO.lst [], MO.lst []] = H1 at *
  have G1 : Gr H H1 := by rw [← hH1]; exact .app _ _
  obtain ⟨H2, e13, G2⟩ := caps_nil (n := n + 2) (h := H1) (d := .ref q)
  have GG : Gr h H2 := (GH.trans G1).trans G2
  have s1 := put_ok (h := H2) (r := r) (g := Str.ofString "own_caps") (v := .tup []) (GG.get er) (by simp)
  generalize hH3 : H2.set r (MO.ins 0 (putA (Str.ofString "own_caps") (.tup []) [])) = H3 at *
  have eq3 : H3[q]? = some (.dct [(.str x, v)]) := by rw [← hH3, List.getElem?_set_ne rq]; exact GG.get e
  have er3 : ∃ F, H3[r]? = some (.ins 0 F) ∧ F.length = 1 := ⟨_, by rw [← hH3, List.getElem?_set_self (List.getElem?_eq_some_iff.mp (GG.get er)).1], rfl⟩
  have eL3 : H3[List.length h]? = some (.dct []) := by
    rw [← hH3, List.getElem?_set_ne (by have := (List.getElem?_eq_some_iff.mp er).1; omega)]
    exact (G1.trans G2).get eL
  obtain ⟨H4, r4, e12, G4⟩ := asc_one (n := n + 2) (h := H3) (q := q) eq3
  obtain ⟨F, er3, lF⟩ := er3
  have s2 := put_ok (h := H4) (r := r) (g := Str.ofString "own_tables") (v := .ref r4) (G4.get er3) (by omega)
  generalize hH5 : H4.set r (MO.ins 0 (putA (Str.ofString "own_tables") (.ref r4) F)) = H5 at *
  have pl : ∀ (g : Str) (v : D) (F : List (Str × D)), (putA g v F).length ≤ F.length + 1 := by
    intro g v F
    induction F with
    | nil => simp [putA]
    | cons a F ih =>
      simp only [putA]
      split
      · simp
      · simp only [List.length_cons]
        omega
  have er5 : H5[r]? = some (.ins 0 (putA (Str.ofString "own_tables") (.ref r4) F)) := by rw [← hH5, List.getElem?_set_self (List.getElem?_eq_some_iff.mp (G4.get er3)).1]
  have eL5 : H5[List.length h]? = some (.dct []) := by
    rw [← hH5, List.getElem?_set_ne (by have := (List.getElem?_eq_some_iff.mp er).1; omega)]
    exact G4.get eL3
  obtain ⟨H6, r6, e14, G6⟩ := asc_nil (n := n + 2) (h := H5) (q := List.length h) eL5
  have s3 := put_ok (h := H6) (r := r) (g := Str.ofString "own_keys") (v := .ref r6) (G6.get er5) (by have := pl (Str.ofString "own_tables") (.ref r4) F; omega)
  rw [cf_eq (fd := d26) rfl rfl rfl]
  simp only [d26, b26, ss_cons, ss_nil, s_asg, s_if, s_setF, e_ife, e_isN, e_edct, e_or, e_not, e_call, es_cons, es_nil, e_slot, s_raiseM, List.map_cons, List.map_nil, List.length_cons, List.length_nil, Nat.zero_add, Nat.reduceAdd, Nat.reduceSub, List.replicate, List.cons_append, List.nil_append, List.getElem?_cons_zero, List.getElem?_cons_succ, List.set_cons_zero, List.set_cons_succ, slotR_some, rb_ok, rs_ok, tru_bl, if_true, sb_nxt, e9, Bool.not_true, Bool.false_eq_true, if_false, e10, e13, s1, e12, s2, e14, s3]
  exact ⟨_, rfl⟩
end
end K00
namespace K00
open PySem L2 MX MX.Drw
open MX.Bas (HN HG Tyd isI nmS isTup tup_ty btw_two btw_no nm_str frI comp_grow e_dcomp loopD_stop loopD_step turnD_eq put_one seal_last fr_not fr_len fr_two)
section
variable {n r k p q o : Nat} {h h' : Hh} {ev : Ev} {env : MX.Env} {a : CE} {t c f : Str} {xs : List D} {b : Bool} {d e v : D} {x : Str}
theorem FK : pg.fns[5]? = some (MX.Bas.frD 2 4) := rfl
theorem req_no (F : cf pg n 5 [d] h = .ok (.bl false) h) : cf pg (n + 1) 6 [d] h = .exc ⟨6, []⟩ h := by
  rw [cf_eq (fd := d6) rfl rfl rfl]
  simp [d6, b6, F]
theorem req_yes (F : cf pg n 5 [d] h = .ok (.bl true) h) : cf pg (n + 1) 6 [d] h = .ok .non h := by
  rw [cf_eq (fd := d6) rfl rfl rfl]
  simp [d6, b6, F]
theorem cmp_bad1 (F : cf pg n 5 [d] h = .ok (.bl false) h) : cf pg (n + 2) 8 [d, e] h = .exc ⟨6, []⟩ h := by
  rw [cf_eq (fd := d8) rfl rfl rfl]
  have := req_no F
  simp [d8, b8, this]
theorem cmp_bad2 (F : cf pg n 5 [d] h = .ok (.bl true) h) (G : cf pg n 5 [e] h = .ok (.bl false) h) : cf pg (n + 2) 8 [d, e] h = .exc ⟨6, []⟩ h := by
  rw [cf_eq (fd := d8) rfl rfl rfl]
  have e1 := req_yes F
  have e2 := req_no G
  simp [d8, b8, e1, e2]
/-- neither a fraction nor tables -/
structure No (h : Hh) (d : D) : Prop where
  fr : ∀ n H, Gr h H → cf pg (n + 2) 5 [d] H = .ok (.bl false) H
  tb : ∀ n H, Gr h H → ∃ H', cf pg (n + 2) 9 [d] H = .ok (.bl false) H' ∧ Gr H H'
theorem no_plain (w : ∀ H, Tyd H d) (e1 : ∀ H, isTy H .tuple d = some false) (e2 : ∀ H, isTy H .dict d = some false) : No h d := ⟨fun n H g => fr_not FK (w H) (by have := tup_ty (w H); rw [e1 H] at this; simpa using this.symm), fun n H g => ⟨H, tables_not (e2 H), .refl _⟩⟩
theorem no_two {a b : Int} (hb : b < 2 ^ 9000) (hf : frI a b = false) : No h (.tup [.int a, .int b]) := ⟨fun n H g => by rw [fr_two HNn HGg FK hb, hf], fun n H g => ⟨H, tables_not rfl, .refl _⟩⟩
theorem no_dict {kvs : List (D × D)} (e : h[p]? = some (.dct kvs)) (T : ∀ n H, Gr h H → ∃ H', cf pg (n + 2) 9 [.ref p] H = .ok (.bl false) H' ∧ Gr H H') : No h (.ref p) := ⟨fun n H g => fr_not FK ⟨_, g.get e, .inr ⟨_, rfl⟩⟩ rfl, T⟩
def odds (p : Nat) : List D := [.non, .tup [], .ref p, .ref (p + 1), .str (Str.ofString "r"), .int 7, .bl true, .ref (p + 2), .ref (p + 3), .ref (p + 4), .tup [.int 2, .int 4], .tup [.int 0, .int 2], .tup [.int (-1), .int 1]]
theorem no_one {v : D} (e : h[p]? = some (.dct [(.str x, v)])) (hx : x.length ≤ 1000) (w : ∀ H, Tyd H v) (o : (nmS x && plc v) = false) : No h (.ref p) := no_dict e fun n H g => by
  obtain ⟨l, e1⟩ := tables_one (n := n) (g.get e) hx (fun t => w _)
  rw [o] at e1
  exact ⟨_, e1, .app _ _⟩
theorem no_odds (e0 : h[p]? = some (.dct [])) (e1 : h[p + 1]? = some (.lst [])) (e2 : h[p + 2]? = some (.dct [(.str (Str.ofString "R"), .int 1)])) (e3 : h[p + 3]? = some (.dct [(.str (Str.ofString "r"), .int 4)])) (e4 : h[p + 4]? = some (.dct [(.str (Str.ofString "r"), .bl true)]))
    (m : d ∈ odds p) : No h d := by
  simp only [odds, List.mem_cons, List.not_mem_nil, or_false] at m
  rcases m with rfl | rfl | rfl | rfl | rfl | rfl | rfl | rfl | rfl | rfl | rfl | rfl | rfl
  · exact no_plain (fun _ => trivial) (fun _ => rfl) fun _ => rfl
  · exact ⟨fun n H g => fr_len FK (by simp), fun n H g => ⟨H, tables_not rfl, .refl _⟩⟩
  · exact no_dict e0 fun n H g => ⟨H, tables_empty (g.get e0), .refl _⟩
  · exact ⟨fun n H g => fr_not FK ⟨_, g.get e1, .inl ⟨_, rfl⟩⟩ rfl, fun n H g => ⟨H, tables_not (by rw [isTy_lst (g.get e1)]; rfl), .refl _⟩⟩
  · exact no_plain (fun _ => trivial) (fun _ => rfl) fun _ => rfl
  · exact no_plain (fun _ => trivial) (fun _ => rfl) fun _ => rfl
  · exact no_plain (fun _ => trivial) (fun _ => rfl) fun _ => rfl
  · exact no_one e2 (by decide) (fun _ => trivial) (by decide +kernel)
  · exact no_one e3 (by decide) (fun _ => trivial) (by decide +kernel)
  · exact no_one e4 (by decide) (fun _ => trivial) (by decide +kernel)
  · exact no_two (by exact_mod_cast Nat.lt_trans (show 4 < 2 ^ 3 by decide) (Nat.pow_lt_pow_right (by decide) (by decide))) (by decide +kernel)
  · exact no_two (by exact_mod_cast Nat.lt_trans (show 2 < 2 ^ 3 by decide) (Nat.pow_lt_pow_right (by decide) (by decide))) (by decide +kernel)
  · exact no_two (by exact_mod_cast Nat.lt_trans (show 1 < 2 ^ 3 by decide) (Nat.pow_lt_pow_right (by decide) (by decide))) (by decide +kernel)
/-- lists of lists of truths that differ not -/
theorem ne_nested {r q a b c u v w : Nat} {x y z : List Bool} (e1 : h[r]? = some (.lst [.ref a, .ref b, .ref c])) (e2 : h[q]? = some (.lst [.ref u, .ref v, .ref w])) (a1 : h[a]? = some (.lst (x.map .bl))) (b1 : h[b]? = some (.lst (y.map .bl))) (c1 : h[c]? = some (.lst (z.map .bl)))
    (u1 : h[u]? = some (.lst (x.map .bl))) (v1 : h[v]? = some (.lst (y.map .bl))) (w1 : h[w]? = some (.lst (z.map .bl))) : cmpD .ne (.ref r) (.ref q) h = .ok (.bl false) h := by
  have t0 : ∀ {r bs}, h[r]? = some (.lst (List.map D.bl bs)) → MX.toP h 19 (.ref r) = some (.list (bs.map PyData.bool)) := fun e => by simp only [MX.toP, e, toP_bools]
  have t : ∀ {r a b c}, h[r]? = some (.lst [.ref a, .ref b, .ref c]) → h[a]? = some (.lst (x.map .bl)) → h[b]? = some (.lst (y.map .bl)) → h[c]? = some (.lst (z.map .bl)) → MX.toP h deep (.ref r) = some (.list [.list (x.map PyData.bool), .list (y.map PyData.bool), .list (z.map PyData.bool)]) := fun e a b c => by
    have : ∀ d, MX.toP h deep d = MX.toP h (19 + 1) d := fun d => rfl
    rw [this]
    simp only [MX.toP, e, optMap, toP_bools, a, b, c]
  have l1 : PyData.canLay0 (.list [.list (x.map PyData.bool), .list (y.map PyData.bool), .list (z.map PyData.bool)]) = true := by simp only [PyData.canLay0, PyData.canLayAll0, lay_bools, Bool.and_self]
  have e0 : PyData.eqv (.list [.list (x.map PyData.bool), .list (y.map PyData.bool), .list (z.map PyData.bool)]) (.list [.list (x.map PyData.bool), .list (y.map PyData.bool), .list (z.map PyData.bool)]) = true := by
    simp only [PyData.eqv, PyData.eqvAll, eqv_bools, decide_true, Bool.and_self]
  simp only [cmpD, eqD, t e1 a1 b1 c1, t e2 u1 v1 w1, l1, Bool.and_self, if_true, e0, Bool.not_true]
end
end K00
namespace K00
open PySem L2 MX MX.Drw
open MX.Bas (HN HG Tyd isI nmS)
section
variable {n r k p q o : Nat} {h h' : Hh} {ev : Ev} {env : MX.Env} {a : CE} {t c f : Str} {xs : List D} {b : Bool} {d e v : D} {x : Str} {ns : List Int} {e4 : Option D}
theorem flags_1 : nm14.map (T (pg.nam 1)) = only [0] 14 := by decide +kernel
theorem flags_6 : nm14.map (T (pg.nam 6)) = only [5] 14 := by decide +kernel
theorem lam_schema (N : No h d) : ∃ h' r, (mkCl pg (tabs pg (n + 6))).callL 24 (evE (MX.E0 pg (n + 5)) (.make 0 (.cons (.slot 3) .nil)) [some (.scr ns), some v, some (.ref p), some d, e4]) h = .ok (.ref r) h' ∧ h'[r]? = some (.lst ((only [0] 14).map .bl)) ∧ Gr h h' := by
  obtain ⟨h1, e1, g1⟩ := make_bad (n := n + 2) (h := h) (d := d) (a := .slot 3) (env := [some (.scr ns), some v, some (.ref p), some d, e4]) (N.tb n) (fun E z => by subst z; simp)
  obtain ⟨h2, r, e2, o2, g2⟩ := taken_exc (k := n + 5) (h := h) (m := evE (MX.E0 pg (n + 5)) (.make 0 (.cons (.slot 3) .nil)) [some (.scr ns), some v, some (.ref p), some d, e4]) e1 (by decide) (by decide +kernel)
  exact ⟨h2, r, e2, by rw [o2, show (⟨1, []⟩ : XV).cls = 1 from rfl, flags_1], g1.trans g2⟩
theorem lam_cmp1 (N : No h d) : ∃ h' r, (mkCl pg (tabs pg (n + 6))).callL 24 (evE (MX.E0 pg (n + 5)) (.call 8 (.cons (.slot 3) (.cons (.tup (.cons (.con (.int (1))) (.cons (.con (.int (2))) .nil))) .nil))) [some (.scr ns), some v, some (.ref p), some d, e4]) h = .ok (.ref r) h' ∧ h'[r]? = some (.lst ((only [5] 14).map .bl)) ∧ Gr h h' := by
  have z2 := z 2 (by decide)
  have e1 : evE (MX.E0 pg (n + 5)) (.call 8 (.cons (.slot 3) (.cons (.tup (.cons (.con (.int (1))) (.cons (.con (.int (2))) .nil))) .nil))) [some (.scr ns), some v, some (.ref p), some d, e4] h = .exc ⟨6, []⟩ h := by
    simp only [e_call, e_tup, e_con, es_cons, es_nil, e_slot, List.length_cons, List.length_nil, Nat.zero_add, Nat.reduceAdd, List.getElem?_cons_zero, List.getElem?_cons_succ, slotR_some, rb_ok, if_pos z2]
    exact cmp_bad1 (n := n + 2) (N.fr n h (.refl _))
  obtain ⟨h2, r, e2, o2, g2⟩ := taken_exc (k := n + 5) (h := h) e1 (by decide) (by decide +kernel)
  exact ⟨h2, r, e2, by rw [o2, show (⟨6, []⟩ : XV).cls = 6 from rfl, flags_6], g2⟩
theorem lam_cmp2 (N : No h d) : ∃ h' r, (mkCl pg (tabs pg (n + 6))).callL 24 (evE (MX.E0 pg (n + 5)) (.call 8 (.cons (.tup (.cons (.con (.int (1))) (.cons (.con (.int (2))) .nil))) (.cons (.slot 3) .nil))) [some (.scr ns), some v, some (.ref p), some d, e4]) h = .ok (.ref r) h' ∧ h'[r]? = some (.lst ((only [5] 14).map .bl)) ∧ Gr h h' := by
  have z2 := z 2 (by decide)
  have e1 : evE (MX.E0 pg (n + 5)) (.call 8 (.cons (.tup (.cons (.con (.int (1))) (.cons (.con (.int (2))) .nil))) (.cons (.slot 3) .nil))) [some (.scr ns), some v, some (.ref p), some d, e4] h = .exc ⟨6, []⟩ h := by
    simp only [e_call, e_tup, e_con, es_cons, es_nil, e_slot, List.length_cons, List.length_nil, Nat.zero_add, Nat.reduceAdd, List.getElem?_cons_zero, List.getElem?_cons_succ, slotR_some, rb_ok, if_pos z2]
    refine cmp_bad2 (n := n + 2) ?_ (N.fr n h (.refl _))
    have := MX.Bas.fr_two (n := n) (h := h) HNn HGg FK (a := 1) (b := 2) (by exact_mod_cast Nat.lt_trans (show 2 < 2 ^ 3 by decide) (Nat.pow_lt_pow_right (by decide) (by decide)))
    rw [this]
    rfl
  obtain ⟨h2, r, e2, o2, g2⟩ := taken_exc (k := n + 5) (h := h) e1 (by decide) (by decide +kernel)
  exact ⟨h2, r, e2, by rw [o2, show (⟨6, []⟩ : XV).cls = 6 from rfl, flags_6], g2⟩
def lawTail : CSs := (.cons (.ret (.cmp .eq (.lam 24 (.make 0 (.cons (.disp (.str (Str.ofString "r")) (.int (3))) .nil))) (.lst .nil))) .nil)
theorem lawTail_ok {env : MX.Env} : ∃ h', retR (exSs (MX.E0 pg (n + 8)) lawTail env h) = .ok (.bl true) h' := by
  have z0 := z 0 (by decide)
  generalize hH : h ++ [MO.dct [(D.str (Str.ofString "r"), D.int 3)]] = H
  have eH : H[List.length h]? = some (.dct [(D.str (Str.ofString "r"), D.int 3)]) := by rw [← hH, ga0]; rfl
  obtain ⟨h1, e1⟩ := init_good (n := n + 1) (h := H ++ [.ins 0 []]) (r := List.length H) (q := List.length h) (x := Str.ofString "r") (v := .int 3) ((Gr.app H _).get eH) (by decide) (fun _ => trivial) (by decide +kernel) (by rw [ga0]; rfl)
  have ei : pg.ini 0 = some 26 := rfl
  have ed : pg.dfl 26 = [.non, .tup []] := rfl
  have mk : evE (MX.E0 pg (n + 6)) (.make 0 (.cons (.disp (.str (Str.ofString "r")) (.int (3))) .nil)) env h = .ok (.ref (List.length H)) h1 := by
    rw [e_make]
    simp only [es_cons, es_nil, e_disp_str, rb_ok, ei, ed, List.cons_append, List.nil_append, hH, e1]
    rfl
  have tk := taken_ok (k := n + 6) mk
  have ee : ∀ H : Hh, cmpD .eq (.ref (List.length H)) (.ref (List.length (H ++ [MO.lst []]))) (H ++ [.lst []] ++ [.lst []]) = .ok (.bl true) (H ++ [.lst []] ++ [.lst []]) := fun H => by
    have e1 : (H ++ [MO.lst []] ++ [MO.lst []])[List.length H]? = some (.lst []) := by rw [List.append_assoc, ga0]; rfl
    have e2 : (H ++ [MO.lst []] ++ [MO.lst []])[List.length (H ++ [MO.lst []])]? = some (.lst []) := by rw [ga0]; rfl
    have t1 : ∀ r, (H ++ [MO.lst []] ++ [MO.lst []])[r]? = some (.lst []) → MX.toP (H ++ [MO.lst []] ++ [MO.lst []]) deep (.ref r) = some (.list []) := fun r e => by simp only [MX.toP, deep, e, optMap]
    simp only [cmpD, eqX, eqD, t1 _ e1, t1 _ e2]
    rfl
  refine ⟨h1 ++ [.lst []] ++ [.lst []], ?_⟩
  have lm : evE (MX.E0 pg (n + 8)) (.lam 24 (.make 0 (.cons (.disp (.str (Str.ofString "r")) (.int (3))) .nil))) env h = .ok (.ref h1.length) (h1 ++ [.lst []]) := by
    rw [e_lam]
    exact tk
  simp only [lawTail, ss_cons, s_ret, e_cmp, lm, rb_ok, e_lst, es_nil, List.length_nil, if_pos z0, ee, rs_ok, sb_ret, ret_ret]
theorem law_wp : wp (cf pg (n + 8) 25 [.scr ns] []) (fun v _ => v = .bl true) (fun _ _ => False) := by
  rw [cf_eq (fd := d25) rfl rfl rfl]
  show wp (retR (exSs (MX.E0 pg (n + 8)) (.cons _ lawTail) [some (.scr ns), none, none, none, none] [])) _ _
  have ln : ∀ H, btD .len [.scr ns] H = .ok (.int ns.length) H := fun H => rfl
  generalize hm : (if (if (ns.length : Int) < 8 then (ns.length : Int) else 8) > 1 then (if (ns.length : Int) < 8 then (ns.length : Int) else 8) else 1) = m
  have m1 : 0 ≤ m ∧ m ≤ 8 := by
    rw [← hm]
    constructor <;> (split <;> split <;> omega)
  have mn : ∀ (i j : Int) H, btD .min [.int i, .int j] H = .ok (.int (if j < i then j else i)) H := fun i j H => rfl
  have mx : ∀ (i j : Int) H, btD .max [.int i, .int j] H = .ok (.int (if j > i then j else i)) H := fun i j H => rfl
  have wk : ∀ H, wkRng (.int m) H = .ok (.rng 0 m.toNat) H := fun H => by
    simp only [wkRng]
    rw [if_pos (by omega)]
  have z0 := z 0 (by decide)
  have z1 := z 1 (by decide)
  have z2 := z 2 (by decide)
  have z6 := z 6 (by decide)
  have z13 := z 13 (by decide)
  rw [wp_ret, ss_cons, wps_sb, s_for, i_rng]
  simp only [e_bt, es_cons, es_nil, e_con, e_slot, List.getElem?_cons_zero, slotR_some, rb_ok, ln, mn, mx, hm, wk, rs_ok]
  simp only [Wk.len]
  refine for_rng (fun lo j env H => (∃ z1 z2 z3 z4, env = [some (.scr ns), z1, z2, z3, z4]) ∧ 0 ≤ lo ∧ lo + j ≤ 8) ?_ ?_ ⟨⟨_, _, _, _, rfl⟩, Int.le_refl 0, (by show (0 : Int) + (m.toNat : Int) ≤ 8; omega)⟩
  · rintro lo j env H ⟨⟨y1, y2, y3, y4, rfl⟩, l0, l1⟩
    simp only [asgT, List.set_cons_zero, List.set_cons_succ]
    rw [ss_cons, s_asg, wps_sb, wps_rs, e_call]
    simp only [es_cons, es_nil, e_slot, List.getElem?_cons_zero, List.getElem?_cons_succ, slotR_some, rb_ok]
    refine wp_mono (start (n := n + 7) (h := H) HD l0 (by omega)) (fun v h1 y => ?_) fun _ _ y => y.elim
    obtain ⟨rfl, B1, _⟩ := y
    generalize H.length = r at B1
    simp only [wps_nxt, List.set_cons_zero, List.set_cons_succ]
    -- messages
    rw [ss_cons, s_if]
    simp only [e_not, e_call, e_lst, e_con, es_cons, es_nil, e_slot, List.length_cons, List.length_nil, Nat.zero_add, Nat.reduceAdd, List.getElem?_cons_zero, List.getElem?_cons_succ, slotR_some, rb_ok, if_pos z6, wps_sb, wps_rs, wp_rb]
    refine wp_mono (pick (n := n + 6) HD (Bag.gr B1 (.app _ _)) (by omega) get_last (by have := B1.lt; omega) (by simp) (by simp)) (fun ms h2 y => ?_) fun _ _ y => y.elim
    obtain ⟨mm, B2, _, _⟩ := y
    obtain ⟨ms, rfl⟩ : ∃ x, ms = .str x := by
      simp only [List.mem_cons, List.not_mem_nil, or_false] at mm
      rcases mm with rfl | rfl | rfl | rfl | rfl | rfl <;> exact ⟨_, rfl⟩
    simp only [wp_ok]
    refine wp_mono (msgs_ok (n := n + 6) (h := h2) (m := ms)) (fun v h3 y => ?_) fun _ _ y => y.elim
    obtain ⟨rfl, G3⟩ := y
    have B3 := Bag.gr B2 G3
    simp only [tru_bl, wp_ok, Bool.not_true, Bool.false_eq_true, if_false, ss_nil, wps_nxt]
    -- the odd value
    rw [ss_cons]
    simp only [s_asg, e_call, e_lst, e_con, e_tup, e_edct, e_disp_str, e_neg, es_cons, es_nil, e_slot, List.length_cons, List.length_nil, Nat.zero_add, Nat.reduceAdd, List.getElem?_cons_zero, List.getElem?_cons_succ, slotR_some, rb_ok, if_pos z0, if_pos z2, if_pos z13, wps_sb, wps_rs, wp_rb]
    generalize hp : List.length h3 = p
    generalize hh5 : h3 ++ [MO.dct []] ++ [MO.lst []] ++ [MO.dct [(D.str (Str.ofString "R"), D.int 1)]] ++ [MO.dct [(D.str (Str.ofString "r"), D.int 4)]] ++ [MO.dct [(D.str (Str.ofString "r"), D.bl true)]] = h5
    have l1 : List.length (h3 ++ [MO.dct []]) = p + 1 := by simp [← hp]
    have l2 : List.length (h3 ++ [MO.dct []] ++ [MO.lst []]) = p + 2 := by simp [← hp]
    have l3 : List.length (h3 ++ [MO.dct []] ++ [MO.lst []] ++ [MO.dct [(D.str (Str.ofString "R"), D.int 1)]]) = p + 3 := by simp [← hp]
    have l4 : List.length (h3 ++ [MO.dct []] ++ [MO.lst []] ++ [MO.dct [(D.str (Str.ofString "R"), D.int 1)]] ++ [MO.dct [(D.str (Str.ofString "r"), D.int 4)]]) = p + 4 := by simp [← hp]
    have hh5' : h5 = h3 ++ [MO.dct [], MO.lst [], MO.dct [(D.str (Str.ofString "R"), D.int 1)], MO.dct [(D.str (Str.ofString "r"), D.int 4)], MO.dct [(D.str (Str.ofString "r"), D.bl true)]] := by
      rw [← hh5]
      simp only [List.append_assoc, List.cons_append, List.nil_append]
    have G5 : Gr h3 h5 := by rw [hh5']; exact .app _ _
    have at5 : ∀ k, h5[p + k]? = [MO.dct [], MO.lst [], MO.dct [(D.str (Str.ofString "R"), D.int 1)], MO.dct [(D.str (Str.ofString "r"), D.int 4)], MO.dct [(D.str (Str.ofString "r"), D.bl true)]][k]? := fun k => by
      rw [hh5', ← hp]
      exact ga
    have lh5 : h5.length = p + 5 := by simp [hh5', ← hp]
    clear hh5'
    have hod : (D.non :: D.tup [] :: D.ref p :: D.ref (p + 1) :: D.str (Str.ofString "r") :: D.int 7 :: D.bl true :: D.ref (p + 2) :: D.ref (p + 3) :: D.ref (p + 4) :: D.tup [D.int 2, D.int 4] :: D.tup [D.int 0, D.int 2] :: D.tup [D.int (-1), D.int 1] :: []) = odds p := rfl
    simp only [l1, l2, l3, l4]
    have hod' : [D.non, D.tup [], D.ref p, D.ref (p + 1), D.str (Str.ofString "r"), D.int 7, D.bl true, D.ref (p + 2), D.ref (p + 3), D.ref (p + 4), D.tup [D.int 2, D.int 4], D.tup [D.int 0, D.int 2], D.tup [D.int (- 1), D.int 1]] = odds p := rfl
    simp only [hod']
    clear l1 l2 l3 l4 hh5
    have B5 := Bag.gr B3 G5
    have rp : r < p := by rw [← hp]; exact B3.lt
    refine wp_mono (pick (n := n + 6) HD (Bag.gr B5 (.app _ _)) (by omega) get_last (by have := B5.lt; omega) (by simp [odds]) (by simp [odds])) (fun od h6 y => ?_) fun _ _ y => y.elim
    obtain ⟨mo, B6, K6, _⟩ := y
    have k6 : ∀ k u, [MO.dct [], MO.lst [], MO.dct [(D.str (Str.ofString "R"), D.int 1)], MO.dct [(D.str (Str.ofString "r"), D.int 4)], MO.dct [(D.str (Str.ofString "r"), D.bl true)]][k]? = some u → h6[p + k]? = some u := fun k u e => K6.at_ _ _ (by omega) ((Gr.app h5 _).get (by rw [at5, e]))
    simp only [wps_nxt, List.set_cons_zero, List.set_cons_succ]
    -- errors with values
    rw [ss_cons, s_if]
    simp only [e_not, e_call, es_cons, es_nil, e_slot, List.getElem?_cons_zero, List.getElem?_cons_succ, slotR_some, rb_ok, wps_sb, wps_rs, wp_rb]
    refine wp_mono (vals_ok (n := n + 5) B6 (by omega)) (fun v h7 y => ?_) fun _ _ y => y.elim
    obtain ⟨rfl, B7, K7⟩ := y
    have k7 : ∀ k u, [MO.dct [], MO.lst [], MO.dct [(D.str (Str.ofString "R"), D.int 1)], MO.dct [(D.str (Str.ofString "r"), D.int 4)], MO.dct [(D.str (Str.ofString "r"), D.bl true)]][k]? = some u → h7[p + k]? = some u := fun k u e => K7.at_ _ _ (by omega) (k6 k u e)
    have ND : No h7 od := no_odds (k7 0 _ rfl) (k7 1 _ rfl) (k7 2 _ rfl) (k7 3 _ rfl) (k7 4 _ rfl) mo
    have ndg : ∀ {H}, Gr h7 H → No H od := fun {H} g => ⟨fun n H' g' => ND.fr n H' (g.trans g'), fun n H' g' => ND.tb n H' (g.trans g')⟩
    simp only [tru_bl, wp_ok, Bool.not_true, Bool.false_eq_true, if_false, ss_nil, wps_nxt]
    -- the calls
    obtain ⟨h8, r8, e8, o8, g8⟩ := lam_schema (n := n + 1) (h := h7) (d := od) (p := r) (v := .int lo) (e4 := y4) (ns := ns) ND
    generalize hq : List.length h8 = q
    have G9 : Gr h8 (h8 ++ [MO.lst [.ref r8]]) := .app _ _
    have oq : (h8 ++ [MO.lst [.ref r8]])[q]? = some (.lst [.ref r8]) := by rw [← hq, ga0]; rfl
    generalize hh9 : h8 ++ [MO.lst [.ref r8]] = h9 at *
    obtain ⟨h10, r10, e10, o10, g10⟩ := lam_cmp1 (n := n + 1) (h := h9) (d := od) (p := r) (v := .int lo) (e4 := some (.ref q)) (ns := ns) (ndg (g8.trans G9))
    have oq10 := g10.get oq
    have sz : ∀ {k}, k ≤ 10 → k < sizeLine := fun {k} hk => by rw [sizeLine_eq]; omega
    have ap1 : bmD .append (.ref q) [.ref r10] h10 = .ok .non (h10.set q (.lst [.ref r8, .ref r10])) := by
      simp only [bmD, bt1, appendM, oq10]
      exact if_pos (sz (k := 1) (by decide))
    have q10 : q < h10.length := (List.getElem?_eq_some_iff.mp oq10).1
    have qr8 : r8 ≠ q := fun z => by
      have := (List.getElem?_eq_some_iff.mp o8).1
      omega
    have qr10 : r10 ≠ q := fun z => by
      rw [z, oq10] at o10
      cases o10
    have K11 : ∀ k u, k ≠ q → h10[k]? = some u → (h10.set q (.lst [.ref r8, .ref r10]))[k]? = some u := fun k u ne e => by rw [List.getElem?_set_ne (Ne.symm ne)]; exact e
    have oq11 : (h10.set q (.lst [.ref r8, .ref r10]))[q]? = some (.lst [.ref r8, .ref r10]) := by rw [List.getElem?_set_self q10]
    have o8_11 := K11 r8 _ qr8 ((G9.trans g10).get o8)
    have o10_11 := K11 r10 _ qr10 o10
    have pq : p + 5 ≤ q := by
      have l7 : p + 5 ≤ h7.length := by
        have := (List.getElem?_eq_some_iff.mp (k7 4 _ rfl)).1
        omega
      obtain ⟨l, hl⟩ := g8.ex
      rw [← hq, hl, List.length_append]
      omega
    have B11 : Bag r (0 + 1 + 1 + 5) (h10.set q (.lst [.ref r8, .ref r10])) := by
      have := Bag.gr B7 ((g8.trans G9).trans g10)
      obtain ⟨x1, x2, x3, e, y⟩ := this.ex
      exact ⟨x1, x2, x3, K11 r _ (by omega) e, y⟩
    have k11 : ∀ k u, k < 5 → [MO.dct [], MO.lst [], MO.dct [(D.str (Str.ofString "R"), D.int 1)], MO.dct [(D.str (Str.ofString "r"), D.int 4)], MO.dct [(D.str (Str.ofString "r"), D.bl true)]][k]? = some u → (h10.set q (.lst [.ref r8, .ref r10]))[p + k]? = some u := fun k u hk e => K11 _ _ (by omega) (((g8.trans G9).trans g10).get (k7 k u e))
    generalize hh11 : h10.set q (.lst [.ref r8, .ref r10]) = h11 at *
    have ND11 : No h11 od := no_odds (k11 0 _ (by decide) rfl) (k11 1 _ (by decide) rfl) (k11 2 _ (by decide) rfl) (k11 3 _ (by decide) rfl) (k11 4 _ (by decide) rfl) mo
    obtain ⟨h12, r12, e12, o12, g12⟩ := lam_cmp2 (n := n + 1) (h := h11) (d := od) (p := r) (v := .int lo) (e4 := some (.ref q)) (ns := ns) ND11
    have oq12 := g12.get oq11
    have ap2 : bmD .append (.ref q) [.ref r12] h12 = .ok .non (h12.set q (.lst [.ref r8, .ref r10, .ref r12])) := by
      simp only [bmD, bt1, appendM, oq12]
      exact if_pos (sz (k := 2) (by decide))
    have q12 : q < h12.length := (List.getElem?_eq_some_iff.mp oq12).1
    have qr12 : r12 ≠ q := fun z => by
      rw [z, oq12] at o12
      cases o12
    have K13 : ∀ k u, k ≠ q → h12[k]? = some u → (h12.set q (.lst [.ref r8, .ref r10, .ref r12]))[k]? = some u := fun k u ne e => by rw [List.getElem?_set_ne (Ne.symm ne)]; exact e
    have oq13 : (h12.set q (.lst [.ref r8, .ref r10, .ref r12]))[q]? = some (.lst [.ref r8, .ref r10, .ref r12]) := by rw [List.getElem?_set_self q12]
    have o8_13 := K13 r8 _ qr8 (g12.get o8_11)
    have o10_13 := K13 r10 _ qr10 (g12.get o10_11)
    have o12_13 := K13 r12 _ qr12 o12
    have B13 : Bag r (0 + 1 + 1 + 5) (h12.set q (.lst [.ref r8, .ref r10, .ref r12])) := by
      have := Bag.gr B11 g12
      obtain ⟨x1, x2, x3, e, y⟩ := this.ex
      exact ⟨x1, x2, x3, K13 r _ (by omega) e, y⟩
    generalize hh13 : h12.set q (.lst [.ref r8, .ref r10, .ref r12]) = h13 at *
    obtain ⟨h14, r14, e14, o14, g14⟩ := only_ok (n := n + 7) (h := h13) (sp := [0]) (k := 14) (by decide)
    have e14 : cf pg (n + 7) 21 [.tup [.int 0], .int 14] h13 = .ok (.ref r14) h14 := e14
    obtain ⟨h16, r16, e16, o16, g16⟩ := only_ok (n := n + 7) (h := h14 ++ [.lst [.ref r14]]) (sp := [5]) (k := 14) (by decide)
    have e16 : cf pg (n + 7) 21 [.tup [.int 5], .int 14] (h14 ++ [.lst [.ref r14]]) = .ok (.ref r16) h16 := e16
    have G16 : Gr h13 h16 := (g14.trans (.app _ _)).trans g16
    have ml : ∀ H : List MO, binD .mul (.ref (List.length H)) (.int 2) (H ++ [.lst [.ref r16]]) = .ok (.ref (List.length (H ++ [MO.lst [.ref r16]]))) (H ++ [.lst [.ref r16]] ++ [.lst [.ref r16, .ref r16]]) := fun H => by
      have e : (H ++ [MO.lst [D.ref r16]])[List.length H]? = some (.lst [.ref r16]) := by
        rw [ga0]
        rfl
      simp only [binD, mulD, e]
      rw [if_pos ⟨by decide, by decide, z _ (show 2 ≤ 1000 by decide)⟩]
      rfl
    have ad : ∀ H : List MO, H[List.length h14]? = some (.lst [.ref r14]) → binD .add (.ref (List.length h14)) (.ref (List.length (H ++ [MO.lst [.ref r16]]))) (H ++ [.lst [.ref r16]] ++ [.lst [.ref r16, .ref r16]]) = .ok (.ref (List.length (H ++ [MO.lst [.ref r16]] ++ [MO.lst [.ref r16, .ref r16]]))) (H ++ [.lst [.ref r16]] ++ [.lst [.ref r16, .ref r16]] ++ [.lst [.ref r14, .ref r16, .ref r16]]) := fun H e => by
      have := add_l (h := H ++ [.lst [.ref r16]] ++ [.lst [.ref r16, .ref r16]]) (r := List.length h14) (q := List.length (H ++ [MO.lst [.ref r16]])) (xs := [.ref r14]) (ys := [.ref r16, .ref r16]) (((Gr.app H _).trans (.app _ _)).get e) (by rw [ga0]; rfl) (by simp)
      rw [this]
      rfl
    have ad1 := ad h16 (g16.get get_last)
    generalize hhF : h16 ++ [MO.lst [D.ref r16]] ++ [MO.lst [D.ref r16, D.ref r16]] ++ [MO.lst [.ref r14, .ref r16, .ref r16]] = hF at *
    have GF : Gr h16 hF := by rw [← hhF]; simp only [List.append_assoc]; exact .app _ _
    have oF : hF[List.length (h16 ++ [MO.lst [.ref r16]] ++ [MO.lst [.ref r16, .ref r16]])]? = some (.lst [.ref r14, .ref r16, .ref r16]) := by rw [← hhF, ga0]; rfl
    have cm := ne_nested (h := hF) ((G16.trans GF).get oq13) oF ((G16.trans GF).get o8_13) ((G16.trans GF).get o10_13) ((G16.trans GF).get o12_13) (((Gr.app h14 _).trans (g16.trans GF)).get o14) (GF.get o16) (GF.get o16)
    rw [ss_cons]
    simp only [s_asg, e_lst, e_lam, es_cons, es_nil, e8, rb_ok, List.length_cons, List.length_nil, Nat.zero_add, Nat.reduceAdd, if_pos z1, rs_ok, sb_nxt, List.set_cons_zero, List.set_cons_succ, hq, hh9]
    rw [ss_cons]
    simp only [s_expr, e_bm, e_lam, es_cons, es_nil, e_slot, List.getElem?_cons_zero, List.getElem?_cons_succ, slotR_some, bmK, oq, e10, rb_ok, ap1, hh11, rs_ok, sb_nxt]
    rw [ss_cons]
    simp only [s_expr, e_bm, e_lam, es_cons, es_nil, e_slot, List.getElem?_cons_zero, List.getElem?_cons_succ, slotR_some, bmK, oq11, e12, rb_ok, ap2, hh13, rs_ok, sb_nxt]
    rw [ss_cons, s_if]
    simp only [e_cmp, e_bin, e_call, e_lst, e_tup, e_con, es_cons, es_nil, e_slot, List.length_cons, List.length_nil, Nat.zero_add, Nat.reduceAdd, List.getElem?_cons_zero, List.getElem?_cons_succ, slotR_some, rb_ok, if_pos z1, e14, e16, ml, ad1, cm, tru_bl, Bool.false_eq_true, if_false, rs_ok, ss_nil, sb_nxt, wps_nxt]
    exact ⟨⟨_, _, _, _, rfl⟩, by omega, by omega⟩
  · rintro lo env H ⟨⟨y1, y2, y3, y4, rfl⟩, _⟩
    obtain ⟨h', t⟩ := lawTail_ok (n := n) (h := H) (env := [some (.scr ns), y1, y2, y3, y4])
    have w : wp (retR (exSs (MX.E0 pg (n + 8)) lawTail [some (.scr ns), y1, y2, y3, y4] H)) (fun v _ => v = .bl true) (fun _ _ => False) := by rw [t]; rfl
    rw [wp_ret] at w
    exact w
theorem answered {ns : List Int} : answers pg 20 25 ns = true := by
  have w := law_wp (n := 12) (ns := ns)
  unfold answers
  show (match cf pg 20 25 [.scr ns] [] with | .ok (.bl true) _ => true | _ => false) = true
  cases e : cf pg (12 + 8) 25 [.scr ns] [] with
  | ok v h =>
    rw [e] at w
    cases w
    rfl
  | exc x h =>
    rw [e] at w
    exact w.elim
  | bad =>
    rw [e] at w
    exact w.elim
end
end K00
open PySem PySem.W PyProof.Rows
set_option maxRecDepth 100000 in
set_option maxHeartbeats 0 in
theorem PySem.Challenge.cw_timesdear_k00_errors_holds : PySem.Challenge.rw_timesdear_k00_errors.Holds := by
  w_on; o_law; k_head; (case hw => w_witness2)
  k_fill
  refine MX.walkM (l := PySem.Challenge.rw_timesdear_k00_errors) (n := 63) (m := 20) (i := 25) (pg := K00.pg) (g := K00.gb) rfl (by decide) rfl ⟨rfl, by decide, by decide⟩ (fun w h Y => by first | exact PySem.W.km_in_of Y | exact PySem.W.kIn_of Y) (by rfl) ?F fun ns _ _ => K00.answered
  case F =>
    intro w mg mb mean h Y KX T
    refine' K00.linked KX T ?ba0 ?bg0 ?bh0 ?bo0 ?bs0 ?bm0 ?bk0 ?bf0_0 ?bf0_1 ?bf0_2 ?bf0_3 ?bf0_4 ?bf0_5 ?bf0_6 ?bf0_7 ?a0 ?l0 ?e0 ?k0 ?a1 ?l1 ?e1 ?k1 ?a2 ?l2 ?e2 ?k2 ?a3 ?l3 ?e3 ?k3 ?a4 ?l4 ?e4 ?k4 ?a5 ?l5 ?e5 ?k5 ?a6 ?l6 ?e6 ?k6 ?a7 ?l7 ?e7 ?k7 ?a8 ?l8 ?e8 ?k8 ?a9 ?l9 ?e9 ?k9 ?a10 ?l10 ?e10 ?k10 ?a11 ?l11 ?e11 ?k11 ?a12 ?l12 ?e12 ?k12 ?a13 ?l13 ?e13 ?k13 ?a14 ?l14 ?e14 ?k14 ?a15 ?l15 ?e15 ?k15 ?a16 ?l16 ?e16 ?k16 ?a17 ?l17 ?e17 ?k17 ?a18 ?l18 ?e18 ?k18 ?a19 ?l19 ?e19 ?k19 ?a20 ?l20 ?e20 ?k20 ?a21 ?l21 ?e21 ?k21 ?a22 ?l22 ?e22 ?k22 ?a23 ?l23 ?e23 ?k23 ?a24 ?l24 ?e24 ?k24 ?a25 ?l25 ?e25 ?k25 ?xl25 ?xv25 ?xr25 ?a26 ?af26 ?l26 ?q1_26 ?q2_26 ?q3_26 ?q4_26 ?e26 ?k26 ?g_LETTERS ?g_MOST_LETTERS ?g_LESS ?g_EQUAL ?g_GREATER ?g_MAX_TABLES ?g_MAX_PLACES ?g_MAX_CAPS ?g_MOST_CAP ?z_len ?z_abs ?z_max ?z_min ?z_int ?z_list ?z_tuple ?z_repr ?z_all ?z_isinstance ?z_bool ?z_str ?z_dict ?z_range ?z_enumerate ?z_sorted ?z_ValueError ?z_IndexError ?z_KeyError ?z_OverflowError ?z_LookupError ?z_ArithmeticError ?ca0 ?ck0 ?cb0 ?cy0 ?ci0 ?cx0 ?ca1 ?ck1 ?cb1 ?cy1 ?ci1 ?cx1 ?ca2 ?ck2 ?cb2 ?cy2 ?ci2 ?cx2 ?ca3 ?ck3 ?cb3 ?cy3 ?ci3 ?cx3 ?ca4 ?ck4 ?cb4 ?cy4 ?ci4 ?cx4 ?ca5 ?ck5 ?cb5 ?cy5 ?ci5 ?cx5 ?ca6 ?ck6 ?cb6 ?cy6 ?ci6 ?cx6 ?ca7 ?ck7 ?cb7 ?cy7 ?ci7 ?cx7 ?ca8 ?ck8 ?cb8 ?cy8 ?ci8 ?cx8 ?ca9 ?ck9 ?cb9 ?cy9 ?ci9 ?cx9 ?ca10 ?ck10 ?cb10 ?cy10 ?ci10 ?cl10 ?ch10 ?ct_10 ?cs10 ?cn10 ?cf10 ?cli10 ?cci10 ?cno10 ?ca11 ?ck11 ?cb11 ?cy11 ?ci11 ?cl11 ?ch11 ?ct_11 ?cs11 ?cn11 ?cf11 ?cli11 ?cci11 ?cno11 ?ca12 ?ck12 ?cb12 ?cy12 ?ci12 ?cl12 ?ch12 ?ct_12 ?cs12 ?cn12 ?cf12 ?cli12 ?cci12 ?cno12 ?ca13 ?ck13 ?cb13 ?cy13 ?ci13 ?cl13 ?ch13 ?ct_13 ?cs13 ?cn13 ?cf13 ?cli13 ?cci13 ?cno13 ?ca14 ?ck14 ?cb14 ?cy14 ?ci14 ?cl14 ?ch14 ?ct_14 ?cs14 ?cn14 ?cf14 ?cli14 ?cci14 ?cno14 ?xhn ?xht ?cg0 ?cgg0 ?chd0 ?cha0 ?chm0 ?sb0_ValueError ?sb0_IndexError ?sb0_KeyError ?sb0_OverflowError ?sb0_LookupError ?sb0_ArithmeticError ?cg1 ?cgg1 ?chd1 ?cha1 ?chm1 ?sb1_ValueError ?sb1_IndexError ?sb1_KeyError ?sb1_OverflowError ?sb1_LookupError ?sb1_ArithmeticError ?cg2 ?cgg2 ?chd2 ?cha2 ?chm2 ?sb2_ValueError ?sb2_IndexError ?sb2_KeyError ?sb2_OverflowError ?sb2_LookupError ?sb2_ArithmeticError ?cg3 ?cgg3 ?chd3 ?cha3 ?chm3 ?sb3_ValueError ?sb3_IndexError ?sb3_KeyError ?sb3_OverflowError ?sb3_LookupError ?sb3_ArithmeticError ?cg4 ?cgg4 ?chd4 ?cha4 ?chm4 ?sb4_ValueError ?sb4_IndexError ?sb4_KeyError ?sb4_OverflowError ?sb4_LookupError ?sb4_ArithmeticError ?cg5 ?cgg5 ?chd5 ?cha5 ?chm5 ?sb5_ValueError ?sb5_IndexError ?sb5_KeyError ?sb5_OverflowError ?sb5_LookupError ?sb5_ArithmeticError ?cg6 ?cgg6 ?chd6 ?cha6 ?chm6 ?sb6_ValueError ?sb6_IndexError ?sb6_KeyError ?sb6_OverflowError ?sb6_LookupError ?sb6_ArithmeticError ?cg7 ?cgg7 ?chd7 ?cha7 ?chm7 ?sb7_ValueError ?sb7_IndexError ?sb7_KeyError ?sb7_OverflowError ?sb7_LookupError ?sb7_ArithmeticError ?cg8 ?cgg8 ?chd8 ?cha8 ?chm8 ?sb8_ValueError ?sb8_IndexError ?sb8_KeyError ?sb8_OverflowError ?sb8_LookupError ?sb8_ArithmeticError ?cg9 ?cgg9 ?chd9 ?cha9 ?chm9 ?sb9_ValueError ?sb9_IndexError ?sb9_KeyError ?sb9_OverflowError ?sb9_LookupError ?sb9_ArithmeticError ?cg10 ?cgg10 ?chd10 ?cha10 ?chm10 ?sb10_ValueError ?sb10_IndexError ?sb10_KeyError ?sb10_OverflowError ?sb10_LookupError ?sb10_ArithmeticError ?cg11 ?cgg11 ?chd11 ?cha11 ?chm11 ?sb11_ValueError ?sb11_IndexError ?sb11_KeyError ?sb11_OverflowError ?sb11_LookupError ?sb11_ArithmeticError ?cg12 ?cgg12 ?chd12 ?cha12 ?chm12 ?sb12_ValueError ?sb12_IndexError ?sb12_KeyError ?sb12_OverflowError ?sb12_LookupError ?sb12_ArithmeticError ?cg13 ?cgg13 ?chd13 ?cha13 ?chm13 ?sb13_ValueError ?sb13_IndexError ?sb13_KeyError ?sb13_OverflowError ?sb13_LookupError ?sb13_ArithmeticError ?cg14 ?cgg14 ?chd14 ?cha14 ?chm14 ?sb14_ValueError ?sb14_IndexError ?sb14_KeyError ?sb14_OverflowError ?sb14_LookupError ?sb14_ArithmeticError ?s0_0 ?s0_1 ?s0_2 ?s0_3 ?s0_4 ?s0_5 ?s0_6 ?s0_7 ?s0_8 ?s0_9 ?s0_10 ?s0_11 ?s0_12 ?s0_13 ?s0_14 ?s1_0 ?s1_1 ?s1_2 ?s1_3 ?s1_4 ?s1_5 ?s1_6 ?s1_7 ?s1_8 ?s1_9 ?s1_10 ?s1_11 ?s1_12 ?s1_13 ?s1_14 ?s2_0 ?s2_1 ?s2_2 ?s2_3 ?s2_4 ?s2_5 ?s2_6 ?s2_7 ?s2_8 ?s2_9 ?s2_10 ?s2_11 ?s2_12 ?s2_13 ?s2_14 ?s3_0 ?s3_1 ?s3_2 ?s3_3 ?s3_4 ?s3_5 ?s3_6 ?s3_7 ?s3_8 ?s3_9 ?s3_10 ?s3_11 ?s3_12 ?s3_13 ?s3_14 ?s4_0 ?s4_1 ?s4_2 ?s4_3 ?s4_4 ?s4_5 ?s4_6 ?s4_7 ?s4_8 ?s4_9 ?s4_10 ?s4_11 ?s4_12 ?s4_13 ?s4_14 ?s5_0 ?s5_1 ?s5_2 ?s5_3 ?s5_4 ?s5_5 ?s5_6 ?s5_7 ?s5_8 ?s5_9 ?s5_10 ?s5_11 ?s5_12 ?s5_13 ?s5_14 ?s6_0 ?s6_1 ?s6_2 ?s6_3 ?s6_4 ?s6_5 ?s6_6 ?s6_7 ?s6_8 ?s6_9 ?s6_10 ?s6_11 ?s6_12 ?s6_13 ?s6_14 ?s7_0 ?s7_1 ?s7_2 ?s7_3 ?s7_4 ?s7_5 ?s7_6 ?s7_7 ?s7_8 ?s7_9 ?s7_10 ?s7_11 ?s7_12 ?s7_13 ?s7_14 ?s8_0 ?s8_1 ?s8_2 ?s8_3 ?s8_4 ?s8_5 ?s8_6 ?s8_7 ?s8_8 ?s8_9 ?s8_10 ?s8_11 ?s8_12 ?s8_13 ?s8_14 ?s9_0 ?s9_1 ?s9_2 ?s9_3 ?s9_4 ?s9_5 ?s9_6 ?s9_7 ?s9_8 ?s9_9 ?s9_10 ?s9_11 ?s9_12 ?s9_13 ?s9_14 ?s10_0 ?s10_1 ?s10_2 ?s10_3 ?s10_4 ?s10_5 ?s10_6 ?s10_7 ?s10_8 ?s10_9 ?s10_10 ?s10_11 ?s10_12 ?s10_13 ?s10_14 ?s11_0 ?s11_1 ?s11_2 ?s11_3 ?s11_4 ?s11_5 ?s11_6 ?s11_7 ?s11_8 ?s11_9 ?s11_10 ?s11_11 ?s11_12 ?s11_13 ?s11_14 ?s12_0 ?s12_1 ?s12_2 ?s12_3 ?s12_4 ?s12_5 ?s12_6 ?s12_7 ?s12_8 ?s12_9 ?s12_10 ?s12_11 ?s12_12 ?s12_13 ?s12_14 ?s13_0 ?s13_1 ?s13_2 ?s13_3 ?s13_4 ?s13_5 ?s13_6 ?s13_7 ?s13_8 ?s13_9 ?s13_10 ?s13_11 ?s13_12 ?s13_13 ?s13_14 ?s14_0 ?s14_1 ?s14_2 ?s14_3 ?s14_4 ?s14_5 ?s14_6 ?s14_7 ?s14_8 ?s14_9 ?s14_10 ?s14_11 ?s14_12 ?s14_13 ?s14_14 ?tk25
    (case ba0 => k_is)
    (case bg0 => k_is)
    (case bh0 => k_is)
    (case bo0 => k_is)
    (case bs0 => k_is)
    (case bm0 => k_is)
    (case bk0 => k_is)
    (case bf0_0 => k_is)
    (case bf0_1 => k_is)
    (case bf0_2 => k_is)
    (case bf0_3 => k_is)
    (case bf0_4 => k_is)
    (case bf0_5 => k_is)
    (case bf0_6 => k_is)
    (case bf0_7 => k_is)
    (case a0 => k_is)
    (case l0 => k_is)
    (case e0 => k_is)
    (case k0 => k_is)
    (case a1 => k_is)
    (case l1 => k_is)
    (case e1 => k_is)
    (case k1 => k_is)
    (case a2 => k_is)
    (case l2 => k_is)
    (case e2 => k_is)
    (case k2 => k_is)
    (case a3 => k_is)
    (case l3 => k_is)
    (case e3 => k_is)
    (case k3 => k_is)
    (case a4 => k_is)
    (case l4 => k_is)
    (case e4 => k_is)
    (case k4 => k_is)
    (case a5 => k_is)
    (case l5 => k_is)
    (case e5 => k_is)
    (case k5 => k_is)
    (case a6 => k_is)
    (case l6 => k_is)
    (case e6 => k_is)
    (case k6 => k_is)
    (case a7 => k_is)
    (case l7 => k_is)
    (case e7 => k_is)
    (case k7 => k_is)
    (case a8 => k_is)
    (case l8 => k_is)
    (case e8 => k_is)
    (case k8 => k_is)
    (case a9 => k_is)
    (case l9 => k_is)
    (case e9 => k_is)
    (case k9 => k_is)
    (case a10 => k_is)
    (case l10 => k_is)
    (case e10 => k_is)
    (case k10 => k_is)
    (case a11 => k_is)
    (case l11 => k_is)
    (case e11 => k_is)
    (case k11 => k_is)
    (case a12 => k_is)
    (case l12 => k_is)
    (case e12 => k_is)
    (case k12 => k_is)
    (case a13 => k_is)
    (case l13 => k_is)
    (case e13 => k_is)
    (case k13 => k_is)
    (case a14 => k_is)
    (case l14 => k_is)
    (case e14 => k_is)
    (case k14 => k_is)
    (case a15 => k_is)
    (case l15 => k_is)
    (case e15 => k_is)
    (case k15 => k_is)
    (case a16 => k_is)
    (case l16 => k_is)
    (case e16 => k_is)
    (case k16 => k_is)
    (case a17 => k_is)
    (case l17 => k_is)
    (case e17 => k_is)
    (case k17 => k_is)
    (case a18 => k_is)
    (case l18 => k_is)
    (case e18 => k_is)
    (case k18 => k_is)
    (case a19 => k_is)
    (case l19 => k_is)
    (case e19 => k_is)
    (case k19 => k_is)
    (case a20 => k_is)
    (case l20 => k_is)
    (case e20 => k_is)
    (case k20 => k_is)
    (case a21 => k_is)
    (case l21 => k_is)
    (case e21 => k_is)
    (case k21 => k_is)
    (case a22 => k_is)
    (case l22 => k_is)
    (case e22 => k_is)
    (case k22 => k_is)
    (case a23 => k_is)
    (case l23 => k_is)
    (case e23 => k_is)
    (case k23 => k_is)
    (case a24 => k_is)
    (case l24 => k_is)
    (case e24 => k_is)
    (case k24 => k_is)
    (case a25 => k_is)
    (case l25 => k_is)
    (case e25 => k_is)
    (case k25 => k_is)
    (case xl25 => k_is)
    (case xv25 => rfl)
    (case xr25 => decide +kernel)
    (case a26 => k_is)
    (case af26 => k_is)
    (case l26 => k_is)
    (case q1_26 => k_is)
    (case q2_26 => k_is)
    (case q3_26 => k_is)
    (case q4_26 => rfl)
    (case e26 => k_is)
    (case k26 => k_is)
    (case g_LETTERS => k_is)
    (case g_MOST_LETTERS => k_is)
    (case g_LESS => k_is)
    (case g_EQUAL => k_is)
    (case g_GREATER => k_is)
    (case g_MAX_TABLES => k_is)
    (case g_MAX_PLACES => k_is)
    (case g_MAX_CAPS => k_is)
    (case g_MOST_CAP => k_is)
    (case z_len => k_is)
    (case z_abs => k_is)
    (case z_max => k_is)
    (case z_min => k_is)
    (case z_int => k_is)
    (case z_list => k_is)
    (case z_tuple => k_is)
    (case z_repr => k_is)
    (case z_all => k_is)
    (case z_isinstance => k_is)
    (case z_bool => k_is)
    (case z_str => k_is)
    (case z_dict => k_is)
    (case z_range => k_is)
    (case z_enumerate => k_is)
    (case z_sorted => k_is)
    (case z_ValueError => k_is)
    (case z_IndexError => k_is)
    (case z_KeyError => k_is)
    (case z_OverflowError => k_is)
    (case z_LookupError => k_is)
    (case z_ArithmeticError => k_is)
    (case ca0 => k_is)
    (case ck0 => k_is)
    (case cb0 => k_is)
    (case cy0 => k_is)
    (case ci0 => k_is)
    (case cx0 => k_exc)
    (case ca1 => k_is)
    (case ck1 => k_is)
    (case cb1 => k_is)
    (case cy1 => k_is)
    (case ci1 => k_is)
    (case cx1 => k_exc)
    (case ca2 => k_is)
    (case ck2 => k_is)
    (case cb2 => k_is)
    (case cy2 => k_is)
    (case ci2 => k_is)
    (case cx2 => k_exc)
    (case ca3 => k_is)
    (case ck3 => k_is)
    (case cb3 => k_is)
    (case cy3 => k_is)
    (case ci3 => k_is)
    (case cx3 => k_exc)
    (case ca4 => k_is)
    (case ck4 => k_is)
    (case cb4 => k_is)
    (case cy4 => k_is)
    (case ci4 => k_is)
    (case cx4 => k_exc)
    (case ca5 => k_is)
    (case ck5 => k_is)
    (case cb5 => k_is)
    (case cy5 => k_is)
    (case ci5 => k_is)
    (case cx5 => k_exc)
    (case ca6 => k_is)
    (case ck6 => k_is)
    (case cb6 => k_is)
    (case cy6 => k_is)
    (case ci6 => k_is)
    (case cx6 => k_exc)
    (case ca7 => k_is)
    (case ck7 => k_is)
    (case cb7 => k_is)
    (case cy7 => k_is)
    (case ci7 => k_is)
    (case cx7 => k_exc)
    (case ca8 => k_is)
    (case ck8 => k_is)
    (case cb8 => k_is)
    (case cy8 => k_is)
    (case ci8 => k_is)
    (case cx8 => k_exc)
    (case ca9 => k_is)
    (case ck9 => k_is)
    (case cb9 => k_is)
    (case cy9 => k_is)
    (case ci9 => k_is)
    (case cx9 => k_exc)
    (case ca10 => k_is)
    (case ck10 => k_is)
    (case cb10 => k_is)
    (case cy10 => k_is)
    (case ci10 => k_is)
    (case cl10 => k_is)
    (case ch10 => decide +kernel)
    (case ct_10 => k_is)
    (case cs10 => k_is)
    (case cn10 => k_is)
    (case cf10 => k_is)
    (case cli10 => k_is)
    (case cci10 => k_is)
    (case cno10 => k_is)
    (case ca11 => k_is)
    (case ck11 => k_is)
    (case cb11 => k_is)
    (case cy11 => k_is)
    (case ci11 => k_is)
    (case cl11 => k_is)
    (case ch11 => decide +kernel)
    (case ct_11 => k_is)
    (case cs11 => k_is)
    (case cn11 => k_is)
    (case cf11 => k_is)
    (case cli11 => k_is)
    (case cci11 => k_is)
    (case cno11 => k_is)
    (case ca12 => k_is)
    (case ck12 => k_is)
    (case cb12 => k_is)
    (case cy12 => k_is)
    (case ci12 => k_is)
    (case cl12 => k_is)
    (case ch12 => decide +kernel)
    (case ct_12 => k_is)
    (case cs12 => k_is)
    (case cn12 => k_is)
    (case cf12 => k_is)
    (case cli12 => k_is)
    (case cci12 => k_is)
    (case cno12 => k_is)
    (case ca13 => k_is)
    (case ck13 => k_is)
    (case cb13 => k_is)
    (case cy13 => k_is)
    (case ci13 => k_is)
    (case cl13 => k_is)
    (case ch13 => decide +kernel)
    (case ct_13 => k_is)
    (case cs13 => k_is)
    (case cn13 => k_is)
    (case cf13 => k_is)
    (case cli13 => k_is)
    (case cci13 => k_is)
    (case cno13 => k_is)
    (case ca14 => k_is)
    (case ck14 => k_is)
    (case cb14 => k_is)
    (case cy14 => k_is)
    (case ci14 => k_is)
    (case cl14 => k_is)
    (case ch14 => decide +kernel)
    (case ct_14 => k_is)
    (case cs14 => k_is)
    (case cn14 => k_is)
    (case cf14 => k_is)
    (case cli14 => k_is)
    (case cci14 => k_is)
    (case cno14 => k_is)
    (case xhn => k_is)
    (case xht => k_is)
    (case cg0 => k_is)
    (case cgg0 => k_is)
    (case chd0 => k_is)
    (case cha0 => k_is)
    (case chm0 => k_is)
    (case sb0_ValueError => k_is)
    (case sb0_IndexError => k_is)
    (case sb0_KeyError => k_is)
    (case sb0_OverflowError => k_is)
    (case sb0_LookupError => k_is)
    (case sb0_ArithmeticError => k_is)
    (case cg1 => k_is)
    (case cgg1 => k_is)
    (case chd1 => k_is)
    (case cha1 => k_is)
    (case chm1 => k_is)
    (case sb1_ValueError => k_is)
    (case sb1_IndexError => k_is)
    (case sb1_KeyError => k_is)
    (case sb1_OverflowError => k_is)
    (case sb1_LookupError => k_is)
    (case sb1_ArithmeticError => k_is)
    (case cg2 => k_is)
    (case cgg2 => k_is)
    (case chd2 => k_is)
    (case cha2 => k_is)
    (case chm2 => k_is)
    (case sb2_ValueError => k_is)
    (case sb2_IndexError => k_is)
    (case sb2_KeyError => k_is)
    (case sb2_OverflowError => k_is)
    (case sb2_LookupError => k_is)
    (case sb2_ArithmeticError => k_is)
    (case cg3 => k_is)
    (case cgg3 => k_is)
    (case chd3 => k_is)
    (case cha3 => k_is)
    (case chm3 => k_is)
    (case sb3_ValueError => k_is)
    (case sb3_IndexError => k_is)
    (case sb3_KeyError => k_is)
    (case sb3_OverflowError => k_is)
    (case sb3_LookupError => k_is)
    (case sb3_ArithmeticError => k_is)
    (case cg4 => k_is)
    (case cgg4 => k_is)
    (case chd4 => k_is)
    (case cha4 => k_is)
    (case chm4 => k_is)
    (case sb4_ValueError => k_is)
    (case sb4_IndexError => k_is)
    (case sb4_KeyError => k_is)
    (case sb4_OverflowError => k_is)
    (case sb4_LookupError => k_is)
    (case sb4_ArithmeticError => k_is)
    (case cg5 => k_is)
    (case cgg5 => k_is)
    (case chd5 => k_is)
    (case cha5 => k_is)
    (case chm5 => k_is)
    (case sb5_ValueError => k_is)
    (case sb5_IndexError => k_is)
    (case sb5_KeyError => k_is)
    (case sb5_OverflowError => k_is)
    (case sb5_LookupError => k_is)
    (case sb5_ArithmeticError => k_is)
    (case cg6 => k_is)
    (case cgg6 => k_is)
    (case chd6 => k_is)
    (case cha6 => k_is)
    (case chm6 => k_is)
    (case sb6_ValueError => k_is)
    (case sb6_IndexError => k_is)
    (case sb6_KeyError => k_is)
    (case sb6_OverflowError => k_is)
    (case sb6_LookupError => k_is)
    (case sb6_ArithmeticError => k_is)
    (case cg7 => k_is)
    (case cgg7 => k_is)
    (case chd7 => k_is)
    (case cha7 => k_is)
    (case chm7 => k_is)
    (case sb7_ValueError => k_is)
    (case sb7_IndexError => k_is)
    (case sb7_KeyError => k_is)
    (case sb7_OverflowError => k_is)
    (case sb7_LookupError => k_is)
    (case sb7_ArithmeticError => k_is)
    (case cg8 => k_is)
    (case cgg8 => k_is)
    (case chd8 => k_is)
    (case cha8 => k_is)
    (case chm8 => k_is)
    (case sb8_ValueError => k_is)
    (case sb8_IndexError => k_is)
    (case sb8_KeyError => k_is)
    (case sb8_OverflowError => k_is)
    (case sb8_LookupError => k_is)
    (case sb8_ArithmeticError => k_is)
    (case cg9 => k_is)
    (case cgg9 => k_is)
    (case chd9 => k_is)
    (case cha9 => k_is)
    (case chm9 => k_is)
    (case sb9_ValueError => k_is)
    (case sb9_IndexError => k_is)
    (case sb9_KeyError => k_is)
    (case sb9_OverflowError => k_is)
    (case sb9_LookupError => k_is)
    (case sb9_ArithmeticError => k_is)
    (case cg10 => k_is)
    (case cgg10 => k_is)
    (case chd10 => k_is)
    (case cha10 => k_is)
    (case chm10 => k_is)
    (case sb10_ValueError => k_is)
    (case sb10_IndexError => k_is)
    (case sb10_KeyError => k_is)
    (case sb10_OverflowError => k_is)
    (case sb10_LookupError => k_is)
    (case sb10_ArithmeticError => k_is)
    (case cg11 => k_is)
    (case cgg11 => k_is)
    (case chd11 => k_is)
    (case cha11 => k_is)
    (case chm11 => k_is)
    (case sb11_ValueError => k_is)
    (case sb11_IndexError => k_is)
    (case sb11_KeyError => k_is)
    (case sb11_OverflowError => k_is)
    (case sb11_LookupError => k_is)
    (case sb11_ArithmeticError => k_is)
    (case cg12 => k_is)
    (case cgg12 => k_is)
    (case chd12 => k_is)
    (case cha12 => k_is)
    (case chm12 => k_is)
    (case sb12_ValueError => k_is)
    (case sb12_IndexError => k_is)
    (case sb12_KeyError => k_is)
    (case sb12_OverflowError => k_is)
    (case sb12_LookupError => k_is)
    (case sb12_ArithmeticError => k_is)
    (case cg13 => k_is)
    (case cgg13 => k_is)
    (case chd13 => k_is)
    (case cha13 => k_is)
    (case chm13 => k_is)
    (case sb13_ValueError => k_is)
    (case sb13_IndexError => k_is)
    (case sb13_KeyError => k_is)
    (case sb13_OverflowError => k_is)
    (case sb13_LookupError => k_is)
    (case sb13_ArithmeticError => k_is)
    (case cg14 => k_is)
    (case cgg14 => k_is)
    (case chd14 => k_is)
    (case cha14 => k_is)
    (case chm14 => k_is)
    (case sb14_ValueError => k_is)
    (case sb14_IndexError => k_is)
    (case sb14_KeyError => k_is)
    (case sb14_OverflowError => k_is)
    (case sb14_LookupError => k_is)
    (case sb14_ArithmeticError => k_is)
    (case s0_0 => first | rfl | k_is)
    (case s0_1 => first | rfl | k_is)
    (case s0_2 => first | rfl | k_is)
    (case s0_3 => first | rfl | k_is)
    (case s0_4 => first | rfl | k_is)
    (case s0_5 => first | rfl | k_is)
    (case s0_6 => first | rfl | k_is)
    (case s0_7 => first | rfl | k_is)
    (case s0_8 => first | rfl | k_is)
    (case s0_9 => first | rfl | k_is)
    (case s0_10 => first | rfl | k_is)
    (case s0_11 => first | rfl | k_is)
    (case s0_12 => first | rfl | k_is)
    (case s0_13 => first | rfl | k_is)
    (case s0_14 => first | rfl | k_is)
    (case s1_0 => first | rfl | k_is)
    (case s1_1 => first | rfl | k_is)
    (case s1_2 => first | rfl | k_is)
    (case s1_3 => first | rfl | k_is)
    (case s1_4 => first | rfl | k_is)
    (case s1_5 => first | rfl | k_is)
    (case s1_6 => first | rfl | k_is)
    (case s1_7 => first | rfl | k_is)
    (case s1_8 => first | rfl | k_is)
    (case s1_9 => first | rfl | k_is)
    (case s1_10 => first | rfl | k_is)
    (case s1_11 => first | rfl | k_is)
    (case s1_12 => first | rfl | k_is)
    (case s1_13 => first | rfl | k_is)
    (case s1_14 => first | rfl | k_is)
    (case s2_0 => first | rfl | k_is)
    (case s2_1 => first | rfl | k_is)
    (case s2_2 => first | rfl | k_is)
    (case s2_3 => first | rfl | k_is)
    (case s2_4 => first | rfl | k_is)
    (case s2_5 => first | rfl | k_is)
    (case s2_6 => first | rfl | k_is)
    (case s2_7 => first | rfl | k_is)
    (case s2_8 => first | rfl | k_is)
    (case s2_9 => first | rfl | k_is)
    (case s2_10 => first | rfl | k_is)
    (case s2_11 => first | rfl | k_is)
    (case s2_12 => first | rfl | k_is)
    (case s2_13 => first | rfl | k_is)
    (case s2_14 => first | rfl | k_is)
    (case s3_0 => first | rfl | k_is)
    (case s3_1 => first | rfl | k_is)
    (case s3_2 => first | rfl | k_is)
    (case s3_3 => first | rfl | k_is)
    (case s3_4 => first | rfl | k_is)
    (case s3_5 => first | rfl | k_is)
    (case s3_6 => first | rfl | k_is)
    (case s3_7 => first | rfl | k_is)
    (case s3_8 => first | rfl | k_is)
    (case s3_9 => first | rfl | k_is)
    (case s3_10 => first | rfl | k_is)
    (case s3_11 => first | rfl | k_is)
    (case s3_12 => first | rfl | k_is)
    (case s3_13 => first | rfl | k_is)
    (case s3_14 => first | rfl | k_is)
    (case s4_0 => first | rfl | k_is)
    (case s4_1 => first | rfl | k_is)
    (case s4_2 => first | rfl | k_is)
    (case s4_3 => first | rfl | k_is)
    (case s4_4 => first | rfl | k_is)
    (case s4_5 => first | rfl | k_is)
    (case s4_6 => first | rfl | k_is)
    (case s4_7 => first | rfl | k_is)
    (case s4_8 => first | rfl | k_is)
    (case s4_9 => first | rfl | k_is)
    (case s4_10 => first | rfl | k_is)
    (case s4_11 => first | rfl | k_is)
    (case s4_12 => first | rfl | k_is)
    (case s4_13 => first | rfl | k_is)
    (case s4_14 => first | rfl | k_is)
    (case s5_0 => first | rfl | k_is)
    (case s5_1 => first | rfl | k_is)
    (case s5_2 => first | rfl | k_is)
    (case s5_3 => first | rfl | k_is)
    (case s5_4 => first | rfl | k_is)
    (case s5_5 => first | rfl | k_is)
    (case s5_6 => first | rfl | k_is)
    (case s5_7 => first | rfl | k_is)
    (case s5_8 => first | rfl | k_is)
    (case s5_9 => first | rfl | k_is)
    (case s5_10 => first | rfl | k_is)
    (case s5_11 => first | rfl | k_is)
    (case s5_12 => first | rfl | k_is)
    (case s5_13 => first | rfl | k_is)
    (case s5_14 => first | rfl | k_is)
    (case s6_0 => first | rfl | k_is)
    (case s6_1 => first | rfl | k_is)
    (case s6_2 => first | rfl | k_is)
    (case s6_3 => first | rfl | k_is)
    (case s6_4 => first | rfl | k_is)
    (case s6_5 => first | rfl | k_is)
    (case s6_6 => first | rfl | k_is)
    (case s6_7 => first | rfl | k_is)
    (case s6_8 => first | rfl | k_is)
    (case s6_9 => first | rfl | k_is)
    (case s6_10 => first | rfl | k_is)
    (case s6_11 => first | rfl | k_is)
    (case s6_12 => first | rfl | k_is)
    (case s6_13 => first | rfl | k_is)
    (case s6_14 => first | rfl | k_is)
    (case s7_0 => first | rfl | k_is)
    (case s7_1 => first | rfl | k_is)
    (case s7_2 => first | rfl | k_is)
    (case s7_3 => first | rfl | k_is)
    (case s7_4 => first | rfl | k_is)
    (case s7_5 => first | rfl | k_is)
    (case s7_6 => first | rfl | k_is)
    (case s7_7 => first | rfl | k_is)
    (case s7_8 => first | rfl | k_is)
    (case s7_9 => first | rfl | k_is)
    (case s7_10 => first | rfl | k_is)
    (case s7_11 => first | rfl | k_is)
    (case s7_12 => first | rfl | k_is)
    (case s7_13 => first | rfl | k_is)
    (case s7_14 => first | rfl | k_is)
    (case s8_0 => first | rfl | k_is)
    (case s8_1 => first | rfl | k_is)
    (case s8_2 => first | rfl | k_is)
    (case s8_3 => first | rfl | k_is)
    (case s8_4 => first | rfl | k_is)
    (case s8_5 => first | rfl | k_is)
    (case s8_6 => first | rfl | k_is)
    (case s8_7 => first | rfl | k_is)
    (case s8_8 => first | rfl | k_is)
    (case s8_9 => first | rfl | k_is)
    (case s8_10 => first | rfl | k_is)
    (case s8_11 => first | rfl | k_is)
    (case s8_12 => first | rfl | k_is)
    (case s8_13 => first | rfl | k_is)
    (case s8_14 => first | rfl | k_is)
    (case s9_0 => first | rfl | k_is)
    (case s9_1 => first | rfl | k_is)
    (case s9_2 => first | rfl | k_is)
    (case s9_3 => first | rfl | k_is)
    (case s9_4 => first | rfl | k_is)
    (case s9_5 => first | rfl | k_is)
    (case s9_6 => first | rfl | k_is)
    (case s9_7 => first | rfl | k_is)
    (case s9_8 => first | rfl | k_is)
    (case s9_9 => first | rfl | k_is)
    (case s9_10 => first | rfl | k_is)
    (case s9_11 => first | rfl | k_is)
    (case s9_12 => first | rfl | k_is)
    (case s9_13 => first | rfl | k_is)
    (case s9_14 => first | rfl | k_is)
    (case s10_0 => first | rfl | k_is)
    (case s10_1 => first | rfl | k_is)
    (case s10_2 => first | rfl | k_is)
    (case s10_3 => first | rfl | k_is)
    (case s10_4 => first | rfl | k_is)
    (case s10_5 => first | rfl | k_is)
    (case s10_6 => first | rfl | k_is)
    (case s10_7 => first | rfl | k_is)
    (case s10_8 => first | rfl | k_is)
    (case s10_9 => first | rfl | k_is)
    (case s10_10 => first | rfl | k_is)
    (case s10_11 => first | rfl | k_is)
    (case s10_12 => first | rfl | k_is)
    (case s10_13 => first | rfl | k_is)
    (case s10_14 => first | rfl | k_is)
    (case s11_0 => first | rfl | k_is)
    (case s11_1 => first | rfl | k_is)
    (case s11_2 => first | rfl | k_is)
    (case s11_3 => first | rfl | k_is)
    (case s11_4 => first | rfl | k_is)
    (case s11_5 => first | rfl | k_is)
    (case s11_6 => first | rfl | k_is)
    (case s11_7 => first | rfl | k_is)
    (case s11_8 => first | rfl | k_is)
    (case s11_9 => first | rfl | k_is)
    (case s11_10 => first | rfl | k_is)
    (case s11_11 => first | rfl | k_is)
    (case s11_12 => first | rfl | k_is)
    (case s11_13 => first | rfl | k_is)
    (case s11_14 => first | rfl | k_is)
    (case s12_0 => first | rfl | k_is)
    (case s12_1 => first | rfl | k_is)
    (case s12_2 => first | rfl | k_is)
    (case s12_3 => first | rfl | k_is)
    (case s12_4 => first | rfl | k_is)
    (case s12_5 => first | rfl | k_is)
    (case s12_6 => first | rfl | k_is)
    (case s12_7 => first | rfl | k_is)
    (case s12_8 => first | rfl | k_is)
    (case s12_9 => first | rfl | k_is)
    (case s12_10 => first | rfl | k_is)
    (case s12_11 => first | rfl | k_is)
    (case s12_12 => first | rfl | k_is)
    (case s12_13 => first | rfl | k_is)
    (case s12_14 => first | rfl | k_is)
    (case s13_0 => first | rfl | k_is)
    (case s13_1 => first | rfl | k_is)
    (case s13_2 => first | rfl | k_is)
    (case s13_3 => first | rfl | k_is)
    (case s13_4 => first | rfl | k_is)
    (case s13_5 => first | rfl | k_is)
    (case s13_6 => first | rfl | k_is)
    (case s13_7 => first | rfl | k_is)
    (case s13_8 => first | rfl | k_is)
    (case s13_9 => first | rfl | k_is)
    (case s13_10 => first | rfl | k_is)
    (case s13_11 => first | rfl | k_is)
    (case s13_12 => first | rfl | k_is)
    (case s13_13 => first | rfl | k_is)
    (case s13_14 => first | rfl | k_is)
    (case s14_0 => first | rfl | k_is)
    (case s14_1 => first | rfl | k_is)
    (case s14_2 => first | rfl | k_is)
    (case s14_3 => first | rfl | k_is)
    (case s14_4 => first | rfl | k_is)
    (case s14_5 => first | rfl | k_is)
    (case s14_6 => first | rfl | k_is)
    (case s14_7 => first | rfl | k_is)
    (case s14_8 => first | rfl | k_is)
    (case s14_9 => first | rfl | k_is)
    (case s14_10 => first | rfl | k_is)
    (case s14_11 => first | rfl | k_is)
    (case s14_12 => first | rfl | k_is)
    (case s14_13 => first | rfl | k_is)
    (case s14_14 => first | rfl | k_is)
    (case tk25 => first | kernel_rfl | rfl)
    all_goals exact Value.none
