import PyProof.Rows.All
import Wide.All
import OpenK.AllK
import Wide.FinOn
import HandS.ForMost
import HandS.Exc
import HandS.ExcOwn
import HandS.ExcInit
import HandS.TryOnly
import HandS.TryMany
import HandS.Flow
import HandS.IsInst
import HandS.HeadHook4
import HandS.HeadWalk
import HandS.HeadEnd
import HandS.Head2
import HandS.DictComp
import KE.GoesNew
import KE.GoesEnum
import KE.KDictMeth
import KE.KDictLaw
import HandS.TupAny
import HandS.Wide
import HandS.Conv
import HandS.Zip
import HandS.Style
import PyProof.NeKinds
import HandS.TupLen
import HandS.Text
import HandS.SetFor
import KE.KDictPairs
import KE.KDictCopyH
import HandS.Small
import HandS.Defaults
import HandS.CallSlots
import HandS.ExcIs
import KE.KIsAll
import HandS.ExcValue
import HandS.SetKeys
import HandS.Strs
import HandS.EndBits
import HandS.Head0
import HandS.Head1
import PySem.Challenge.RW_roundweave_k01_systems_changed_anywhere
set_option Elab.async false
set_option linter.all false
set_option maxRecDepth 100000
set_option maxHeartbeats 4000000
/-! keys of dicts that are nested tuples of ints and texts -/
namespace DL
open PySem PySem.Spec PyProof.Rows L2

inductive TK where
  | a (k : L2.Key) | t (l : List TK)
  deriving Inhabited
mutual
def TK.dec : (x y : TK) → Decidable (x = y)
  | .a k, .a l => if h : k = l then .isTrue (by rw [h]) else .isFalse (fun e => h (by injection e))
  | .t k, .t l => match TK.decs k l with
    | .isTrue h => .isTrue (by rw [h])
    | .isFalse h => .isFalse (fun e => h (by injection e))
  | .a _, .t _ => .isFalse (fun e => by cases e)
  | .t _, .a _ => .isFalse (fun e => by cases e)
def TK.decs : (x y : List TK) → Decidable (x = y)
  | [], [] => .isTrue rfl
  | [], _ :: _ => .isFalse (fun e => by cases e)
  | _ :: _, [] => .isFalse (fun e => by cases e)
  | x :: xs, y :: ys => match TK.dec x y, TK.decs xs ys with
    | .isTrue h, .isTrue h' => .isTrue (by rw [h, h'])
    | .isFalse h, _ => .isFalse (fun e => h (by injection e))
    | _, .isFalse h => .isFalse (fun e => h (by injection e))
end
instance : DecidableEq TK := TK.dec
mutual
def tdep : TK → Nat
  | .a _ => 0
  | .t l => tdeps l + 1
def tdeps : List TK → Nat
  | [] => 0
  | x :: xs => max (tdep x) (tdeps xs)
end
mutual
def KIs (h : Heap) : TK → Value → Prop
  | .a k, v => keyIs k v = true
  | .t l, v => ∃ (a : Addr) (o : Obj) (items : Array Value) (n : Nat), v = .ref a ∧ h.get? a = some o ∧ o.cls = .type "tuple" ∧ o.data = .seq items n ∧ KAll h l items.toList
def KAll (h : Heap) : List TK → List Value → Prop
  | [], vs => vs = []
  | k :: ks, vs => ∃ v r, vs = v :: r ∧ KIs h k v ∧ KAll h ks r
end
mutual
theorem KIs.inj {h : Heap} : ∀ {x y : TK} {v : Value}, KIs h x v → KIs h y v → x = y
  | .a k, .a l, v, hx, hy => by
    simp only [KIs] at hx hy
    rcases keyIs_shape hx with ⟨i, t, rfl, rfl⟩ | ⟨z, t, rfl, rfl⟩
    · rcases keyIs_shape hy with ⟨j, u, rfl, e⟩ | ⟨w, u, rfl, e⟩
      · cases e; rfl
      · cases e
    · rcases keyIs_shape hy with ⟨j, u, rfl, e⟩ | ⟨w, u, rfl, e⟩
      · cases e
      · cases e; rfl
  | .a k, .t l, v, hx, hy => by
    simp only [KIs] at hx hy
    obtain ⟨a, o, items, n, rfl, _⟩ := hy
    rcases keyIs_shape hx with ⟨i, t, rfl, e⟩ | ⟨z, t, rfl, e⟩ <;> cases e
  | .t l, .a k, v, hx, hy => by
    simp only [KIs] at hx hy
    obtain ⟨a, o, items, n, rfl, _⟩ := hx
    rcases keyIs_shape hy with ⟨i, t, rfl, e⟩ | ⟨z, t, rfl, e⟩ <;> cases e
  | .t l, .t m, v, hx, hy => by
    simp only [KIs] at hx hy
    obtain ⟨a, o, items, n, rfl, ho, _, hd, ha⟩ := hx
    obtain ⟨b, o', items', n', e, ho', _, hd', ha'⟩ := hy
    cases e
    rw [ho] at ho'
    cases ho'
    rw [hd] at hd'
    cases hd'
    rw [KAll.inj ha ha']
theorem KAll.inj {h : Heap} : ∀ {x y : List TK} {vs : List Value}, KAll h x vs → KAll h y vs → x = y
  | [], [], _, _, _ => rfl
  | [], y :: ys, vs, hx, hy => by
    simp only [KAll] at hx hy
    obtain ⟨v, r, e, _⟩ := hy
    rw [hx] at e
    cases e
  | x :: xs, [], vs, hx, hy => by
    simp only [KAll] at hx hy
    obtain ⟨v, r, e, _⟩ := hx
    rw [hy] at e
    cases e
  | x :: xs, y :: ys, vs, hx, hy => by
    simp only [KAll] at hx hy
    obtain ⟨v, r, rfl, h1, h2⟩ := hx
    obtain ⟨v', r', e, h1', h2'⟩ := hy
    cases e
    rw [KIs.inj h1 h1', KAll.inj h2 h2']
end
mutual
theorem KIs.mono {h h' : Heap} (k : ∀ a o items n, h.get? a = some o → o.data = .seq items n → h'.get? a = some o) : ∀ {x : TK} {v : Value}, KIs h x v → KIs h' x v
  | .a _, v, hx => by simp only [KIs] at hx ⊢; exact hx
  | .t l, v, hx => by
    simp only [KIs] at hx ⊢
    obtain ⟨a, o, items, n, e, ho, hc, hd, ha⟩ := hx
    exact ⟨a, o, items, n, e, k a o items n ho hd, hc, hd, KAll.mono k ha⟩
theorem KAll.mono {h h' : Heap} (k : ∀ a o items n, h.get? a = some o → o.data = .seq items n → h'.get? a = some o) : ∀ {x : List TK} {vs : List Value}, KAll h x vs → KAll h' x vs
  | [], _, hx => by simp only [KAll] at hx ⊢; exact hx
  | x :: xs, vs, hx => by
    simp only [KAll] at hx ⊢
    obtain ⟨v, r, e, h1, h2⟩ := hx
    exact ⟨v, r, e, KIs.mono k h1, KAll.mono k h2⟩
end
theorem KAll.length {h : Heap} : ∀ {x : List TK} {vs : List Value}, KAll h x vs → x.length = vs.length
  | [], vs, hx => by simp only [KAll] at hx; rw [hx]; rfl
  | x :: xs, vs, hx => by
    simp only [KAll] at hx
    obtain ⟨v, r, rfl, _, h2⟩ := hx
    simp [KAll.length h2]
mutual
def hashK (w : World) : TK → Int
  | .a k => keyH w k
  | .t l => reduceHash (Builtin.Tuple.tupleHashOf (hashKs w l))
def hashKs (w : World) : List TK → List Int
  | [] => []
  | k :: ks => hashK w k :: hashKs w ks
end
mutual
def drawsK : TK → Nat
  | .a _ => 1
  | .t l => drawsKs l + 1
def drawsKs : List TK → Nat
  | [] => 0
  | k :: ks => drawsK k + drawsKs ks
end
theorem hashKs_append (w : World) : ∀ (x y : List TK), hashKs w (x ++ y) = hashKs w x ++ hashKs w y
  | [], y => rfl
  | a :: x, y => by simp only [List.cons_append, hashKs, hashKs_append w x y]
theorem drawsKs_append : ∀ (x y : List TK), drawsKs (x ++ y) = drawsKs x + drawsKs y
  | [], y => by simp [drawsKs]
  | a :: x, y => by simp only [List.cons_append, drawsKs, drawsKs_append x y]; omega

section
variable {prog : Program} {w : World}
theorem specHash_tuple {A : Around} {E : Value → Shared → Prop} {s : Shared} {a : Addr} {o : Obj} {items : Array Value} {n : Nat} {l : List TK} {Q : Int → Shared → Prop} (hu : A.units < cLine) (ho : s.heap.get? a = some o) (hc : o.cls = .type "tuple") (hd : o.data = .seq items n) (hi : KAll s.heap l items.toList)
    (ih : ∀ k ∈ l, ∀ {E : Value → Shared → Prop} {s : Shared} {v : Value} {Q : Int → Shared → Prop}, KIs s.heap k v → Q (hashK w k) { s with toks := s.toks + drawsK k } → wpAny (model prog w) A.in1 (pyHash v) Q E s)
    (h : Q (hashK w (.t l)) { s with toks := s.toks + drawsK (.t l) }) :
    wpAny (model prog w) A (pyHash (.ref a)) Q E s := by
  have hT : s.TypeIs (.ref a) "tuple" := ⟨o, ho, hc⟩
  unfold pyHash
  first | unfold pyHashByItsType | skip
  first | refine wpAny_bind (wpAny_cRoomFor_or (.inr hu) ?_) | skip
  refine wpAny_bind (wpAny_specialOf hT F.slot_tuple_hash.lookup ?_)
  show wpAny _ _ (if (some (Value.builtin "tuple.__hash__") == some Value.none) = true then _ else _) Q E s
  rw [if_neg (by rw [beq_builtin_none]; exact Bool.false_ne_true)]
  refine wpAny_bind (wpAny_specialOf hT F.slot_tuple_hash.lookup ?_)
  show wpAny _ _ (callSpecialIfBoundUnlessNone? (.ref a) "__hash__" _ >>= _) Q E s
  refine wpAny_bind (wpAny_callSpecialIfBoundUnlessNone?_slot hT F.slot_tuple_hash (wpAny_call_entry F.slot_tuple_hash hT F.entry_tuple_hash ?_ (F.args_tuple_hash_1 _)))
  show wpAny _ _ (Builtin.Tuple.tupleItemsOf (.ref a) >>= _) _ _ s
  refine wpAny_bind (wpAny_tupleItemsOf ho hd ?_)
  refine wpAny_bind ?_
  rw [← Array.forIn_toList]
  refine wpAny_forIn_list _
    (fun rest (b : Array Int) s' => ∃ done left, l = done ++ left ∧ KAll s.heap left rest ∧ b.toList = hashKs w done ∧ s' = { s with toks := s.toks + drawsKs done })
    _ ?_ ?_ _ _ ⟨[], l, rfl, hi, rfl, rfl⟩
  · rintro x rest b s' ⟨done, left, rfl, hl, hb, rfl⟩
    cases left with
    | nil => simp only [KAll] at hl; cases hl
    | cons k ks' =>
      simp only [KAll] at hl
      obtain ⟨v, r, e, h1, hl'⟩ := hl
      cases e
      refine wpAny_bind (ih k (by simp) (s := { s with toks := s.toks + drawsKs done }) h1 ?_)
      have e2 : s.toks + drawsKs done + drawsK k = s.toks + drawsKs (done ++ [k]) := by
        rw [drawsKs_append]; simp only [drawsKs]; omega
      first
        | exact wpAny_pure ⟨done ++ [k], ks', by simp, hl', by rw [hashKs_append]; simp [hb, hashKs], by rw [← e2]⟩
        | exact wpAny_bind (wpAny_pure (wpAny_pure ⟨done ++ [k], ks', by simp, hl', by rw [hashKs_append]; simp [hb, hashKs], by rw [← e2]⟩))
  · rintro b s' ⟨done, left, rfl, hl, hb, rfl⟩
    cases left with
    | cons k ks =>
      simp only [KAll] at hl
      obtain ⟨v, r, e, _⟩ := hl
      cases e
    | nil =>
    rw [List.append_nil] at h
    show wpAny _ _ (retInt (Builtin.Tuple.tupleHashOf b.toList)) _ _ _
    rw [hb]
    refine wpAny_ret_mkInt ?_
    show wpAny _ _ (if (decide (-(2 : Int) ^ 63 ≤ Builtin.Tuple.tupleHashOf (hashKs w done)) && decide (Builtin.Tuple.tupleHashOf (hashKs w done) < 2 ^ 63)) = true then _ else _) Q E _
    simp only [hashK, drawsK] at h
    unfold reduceHash at h
    by_cases hr : (decide (-(2 : Int) ^ 63 ≤ Builtin.Tuple.tupleHashOf (hashKs w done)) && decide (Builtin.Tuple.tupleHashOf (hashKs w done) < 2 ^ 63)) = true
    · rw [if_pos hr]
      rw [if_pos hr] at h
      exact wpAny_pure (by simpa [Nat.add_assoc] using h)
    · rw [if_neg hr]
      rw [if_neg hr] at h
      exact wpAny_bind (wpAny_rule (wpAny_pure (by simpa [Nat.add_assoc] using h)))
theorem tdeps_mem : ∀ {l : List TK} {k : TK}, k ∈ l → tdep k ≤ tdeps l
  | x :: xs, k, h => by
    simp only [tdeps]
    rcases List.mem_cons.mp h with rfl | h
    · exact Nat.le_max_left _ _
    · exact Nat.le_trans (tdeps_mem h) (Nat.le_max_right _ _)
def HashOk (prog : Program) (w : World) (k : TK) : Prop := ∀ (A : Around) (E : Value → Shared → Prop) (s : Shared) (v : Value) (Q : Int → Shared → Prop), A.units + tdep k < cLine + 1 → KIs s.heap k v → Q (hashK w k) { s with toks := s.toks + drawsK k } → wpAny (model prog w) A (pyHash v) Q E s
mutual
theorem kHash : ∀ (k : TK), HashOk prog w k
  | .a k => fun A E s v Q hu hk h => by
    simp only [KIs, hashK, drawsK] at hk h
    exact (mixKind prog w).pyHash hk h
  | .t l => fun A E s v Q hu hk h => by
    simp only [KIs] at hk
    obtain ⟨a, o, items, n, rfl, ho, hc, hd, hi⟩ := hk
    simp only [tdep] at hu
    exact specHash_tuple (by omega) ho hc hd hi (fun k hm {E s v Q} h1 h2 => kHashes l k hm A.in1 E s v Q (by have := tdeps_mem hm; show A.units + 1 + _ < _; omega) h1 h2) h
theorem kHashes : ∀ (l : List TK) (k : TK), k ∈ l → HashOk prog w k
  | [], k, hm => by cases hm
  | x :: xs, k, hm => by
    by_cases e : k = x
    · rw [e]
      exact kHash x
    · have hm' : k ∈ xs := by
        rcases List.mem_cons.mp hm with z | z
        · exact absurd z e
        · exact z
      exact kHashes xs k hm'
end
end
open SeqAt in
mutual
theorem kEq : ∀ (x y : TK) {A : Around} {s : Shared} {u v : Value}, KIs s.heap x u → KIs s.heap y v → A.units + min (tdep x) (tdep y) < cLine → SeqAt.EqAt A s u v (decide (x = y))
  | .a k, .a l, A, s, u, v, h1, h2, hu => by
    simp only [KIs] at h1 h2
    rcases keyIs_shape h1 with ⟨i, t, rfl, rfl⟩ | ⟨z, t, rfl, rfl⟩
    · rcases keyIs_shape h2 with ⟨j, t', rfl, rfl⟩ | ⟨z', t', rfl, rfl⟩
      · have e : decide (TK.a (Sum.inl i) = TK.a (Sum.inl j)) = (i == j) := by
          by_cases h : i = j
          · subst h; simp
          · have : ¬ (TK.a (Sum.inl i) = TK.a (Sum.inl j)) := fun e => h (by injection e with e; injection e)
            rw [decide_eq_false this]; simp [h]
        rw [e]
        exact SeqAt.EqAt.int_int i t j t'
      · rw [decide_eq_false (fun e => by cases e)]
        exact SeqAt.EqAt.int_str i t z' t'
    · rcases keyIs_shape h2 with ⟨j, t', rfl, rfl⟩ | ⟨z', t', rfl, rfl⟩
      · rw [decide_eq_false (fun e => by cases e)]
        exact SeqAt.EqAt.str_int z t j t'
      · have e : decide (TK.a (Sum.inr z) = TK.a (Sum.inr z')) = (z == z') := by
          by_cases h : z = z'
          · subst h; simp
          · have : ¬ (TK.a (Sum.inr z) = TK.a (Sum.inr z')) := fun e => h (by injection e with e; injection e)
            rw [decide_eq_false this]; simp [h]
        rw [e]
        exact SeqAt.EqAt.str_str z t z' t'
  | .a k, .t l, A, s, u, v, h1, h2, hu => by
    simp only [KIs] at h1 h2
    obtain ⟨a, o, items, n, rfl, ho, hc, hd, hi⟩ := h2
    rw [decide_eq_false (fun e => by cases e)]
    have hT : s.heap.IsTuple a items := ⟨o, ho, hc, n, hd⟩
    rcases keyIs_shape h1 with ⟨i, t, rfl, rfl⟩ | ⟨z, t, rfl, rfl⟩
    · exact SeqAt.EqAt.int_tuple _ _ hT (by simp only [tdep] at hu; omega)
    · exact SeqAt.EqAt.str_tuple _ _ hT (by simp only [tdep] at hu; omega)
  | .t l, .a k, A, s, u, v, h1, h2, hu => by
    simp only [KIs] at h1 h2
    obtain ⟨a, o, items, n, rfl, ho, hc, hd, hi⟩ := h1
    rw [decide_eq_false (fun e => by cases e)]
    have hT : s.heap.IsTuple a items := ⟨o, ho, hc, n, hd⟩
    rcases keyIs_shape h2 with ⟨i, t, rfl, rfl⟩ | ⟨z, t, rfl, rfl⟩
    · exact SeqAt.EqAt.tuple_int _ _ hT (by simp only [tdep] at hu; omega)
    · exact SeqAt.EqAt.tuple_str _ _ hT (by simp only [tdep] at hu; omega)
  | .t l, .t m, A, s, u, v, h1, h2, hu => by
    have h10 := h1
    have h20 := h2
    simp only [KIs] at h1 h2
    obtain ⟨a, o, items, n, rfl, ho, hc, hd, hi⟩ := h1
    obtain ⟨b, o', items', n', rfl, ho', hc', hd', hi'⟩ := h2
    by_cases hab : a = b
    · subst hab
      have e := KIs.inj h10 h20
      rw [decide_eq_true e]
      exact SeqAt.EqAt.same _
    · have hT : s.heap.IsTuple a items := ⟨o, ho, hc, n, hd⟩
      have hT' : s.heap.IsTuple b items' := ⟨o', ho', hc', n', hd'⟩
      simp only [tdep] at hu
      obtain ⟨f, hf, hb⟩ := @kEqs l m A.in1 s _ _ hi hi' (by show A.units + 1 + _ < _; omega)
      refine SeqAt.EqAt.of_refs hab ?_
      have e : decide (TK.t l = TK.t m) = decide (l = m) := by
        by_cases h : l = m
        · subst h; simp
        · have : ¬ (TK.t l = TK.t m) := fun e => h (by injection e)
          rw [decide_eq_false this, decide_eq_false h]
      rw [e, ← hb]
      have h3 := SeqAt.RcAt.tuples (A := A) (e := f) hT hT' (by omega) (fun j h1 h2 => by
        have := hf j (by simpa using h1) (by simpa using h2)
        simpa using this)
      simpa using h3
theorem kEqs : ∀ (xs ys : List TK) {A : Around} {s : Shared} {us vs : List Value}, KAll s.heap xs us → KAll s.heap ys vs → A.units + min (tdeps xs) (tdeps ys) < cLine →
    ∃ f : Nat → Bool, (∀ j (h1 : j < us.length) (h2 : j < vs.length), SeqAt.EqAt A s us[j] vs[j] (f j)) ∧ ((List.range (min us.length vs.length)).all f && us.length == vs.length) = decide (xs = ys)
  | [], [], A, s, us, vs, h1, h2, hu => by
    simp only [KAll] at h1 h2
    subst h1 h2
    exact ⟨fun _ => true, fun j h => absurd h (Nat.not_lt_zero _), by simp⟩
  | [], y :: ys, A, s, us, vs, h1, h2, hu => by
    simp only [KAll] at h1 h2
    obtain ⟨v, r, rfl, _, _⟩ := h2
    subst h1
    exact ⟨fun _ => true, fun j h => absurd h (Nat.not_lt_zero _), by simp⟩
  | x :: xs, [], A, s, us, vs, h1, h2, hu => by
    simp only [KAll] at h1 h2
    obtain ⟨v, r, rfl, _, _⟩ := h1
    subst h2
    exact ⟨fun _ => true, fun j _ h => absurd h (Nat.not_lt_zero _), by simp⟩
  | x :: xs, y :: ys, A, s, us, vs, h1, h2, hu => by
    simp only [KAll] at h1 h2
    obtain ⟨u, ur, rfl, q1, t1⟩ := h1
    obtain ⟨v, vr, rfl, q2, t2⟩ := h2
    simp only [tdeps] at hu
    obtain ⟨f, hf, hb⟩ := kEqs xs ys t1 t2 (A := A) (s := s) (room_tail hu)
    have h0 := kEq x y q1 q2 (A := A) (s := s) (room_head hu)
    refine ⟨fun j => match j with | 0 => decide (x = y) | j + 1 => f j, fun j h1 h2 => ?_, ?_⟩
    · cases j with
      | zero => exact h0
      | succ j => exact hf j (Nat.lt_of_succ_lt_succ h1) (Nat.lt_of_succ_lt_succ h2)
    · have e : decide (x :: xs = y :: ys) = (decide (x = y) && decide (xs = ys)) := by
        by_cases ha : x = y <;> by_cases hb : xs = ys <;> simp [ha, hb]
      rw [e, ← hb]
      simp only [List.length_cons]
      rw [Nat.succ_min_succ, List.range_succ_eq_map]
      simp [List.all_map, Function.comp_def, Bool.and_assoc]
end
section
variable {prog : Program} {w : World}
def QuietOk (prog : Program) (w : World) (k : TK) : Prop := ∀ (n : Nat) (A : Around) (E : Value → Shared → Prop) (s : Shared) (v : Value) (Q : Bool → Shared → Prop), tdep k ≤ n → KIs s.heap k v → Q true s → wpAny (model prog w) A (eqIsQuiet n v) Q E s
mutual
theorem kQuiet : ∀ k : TK, QuietOk prog w k
  | .a k => fun n A E s v Q hn hk h => by
    simp only [KIs] at hk
    have : carriedByValue v = true := by
      rcases keyIs_shape hk with ⟨i, t, rfl, rfl⟩ | ⟨z, t, rfl, rfl⟩ <;> rfl
    rw [eqIsQuiet_byValue _ this]
    exact wpAny_pure h
  | .t l => fun n A E s v Q hn hk h => by
    simp only [KIs] at hk
    obtain ⟨a, o, items, m, rfl, ho, hc, hd, hi⟩ := hk
    have hT : s.TypeIs (.ref a) "tuple" := ⟨o, ho, hc⟩
    simp only [tdep] at hn
    cases n with
    | zero => omega
    | succ n =>
      unfold eqIsQuiet
      refine wpAny_bind (wpAny_specialOf hT F.slot_tuple_eq.lookup ?_)
      show wpAny _ _ (isInstance (.ref a) (.type "tuple") >>= _) _ _ s
      refine wpAny_bind (wpAny_isInstance hT isSubtype_tuple_tuple ?_)
      simp only [Bool.not_true, Bool.false_eq_true, if_false]
      refine wpAny_bind (wpAny_seqItems ho hd ?_)
      refine wpAny_bind ?_
      show wpAny _ _ (forIn items _ _) _ _ s
      rw [← Array.forIn_toList]
      refine wpAny_forIn_list _ (fun rest r s' => r.1 = none ∧ s' = s ∧ ∃ left, (∀ k ∈ left, k ∈ l) ∧ KAll s.heap left rest) _ ?_ ?_ _ _ ⟨rfl, rfl, l, fun _ z => z, hi⟩
      · rintro v rest r s' ⟨hr, rfl, left, hl, hall⟩
        cases left with
        | nil => simp only [KAll] at hall; cases hall
        | cons k ks =>
          simp only [KAll] at hall
          obtain ⟨v', r', e, h1, h2⟩ := hall
          cases e
          refine wpAny_bind (kQuiets l k (hl k (List.mem_cons_self ..)) _ _ _ _ _ _ (by have := tdeps_mem (hl k (List.mem_cons_self ..)); omega) h1 ?_)
          simp only [Bool.not_true, Bool.false_eq_true, if_false]
          exact wpAny_pure ⟨rfl, rfl, ks, fun z hz => hl z (List.mem_cons_of_mem _ hz), h2⟩
      · rintro ⟨r1, r2⟩ s' ⟨hr, rfl, _⟩
        simp only at hr
        subst hr
        exact wpAny_pure h
theorem kQuiets : ∀ (l : List TK) (k : TK), k ∈ l → QuietOk prog w k
  | [], k, hm => by cases hm
  | x :: xs, k, hm => by
    by_cases e : k = x
    · rw [e]
      exact kQuiet x
    · have hm' : k ∈ xs := by
        rcases List.mem_cons.mp hm with z | z
        · exact absurd z e
        · exact z
      exact kQuiets xs k hm'
end
/-- keys that are tuples -/
def nkKind (prog : Program) (w : World) : HeapKind prog w TK where
  is := fun h k a => tdep k ≤ 8 ∧ KIs h k (.ref a)
  hash := hashK w
  draws := drawsK
  room := fun A => A.units + 8 < cLine
  inj := fun hx hy => KIs.inj hx.2 hy.2
  keeps := fun {h h' k a d o es ep} x ho hd hs => ⟨x.1, x.2.mono fun b ob items n hb hdb => by
    have hne : b ≠ d := by
      rintro rfl
      rw [ho] at hb
      cases hb
      rw [hd] at hdb
      cases hdb
    exact (hs.2 b hne).trans hb⟩
  pyHash := fun hu hk h => kHash _ _ _ _ _ _ (by have := hk.1; omega) hk.2 h
  eqBool := fun hu hx hy h => kEq _ _ hx.2 hy.2 (by have := hx.1; omega) _ _ _ _ h
  quiet := fun hk h => kQuiet _ _ _ _ _ _ _ hk.1 hk.2 h
end
end DL

set_option Elab.async false
set_option linter.all false
set_option maxRecDepth 100000
set_option maxHeartbeats 4000000
/-! the deep layer: values, heaps, what stands for what -/
namespace DL
open PySem PySem.Spec PyProof.Rows L2

inductive D where
  | non | bl (b : Bool) | int (i : Int) | str (x : Str)
  | tup (xs : List D) | lst (xs : List D) | dct (ks vs : List D) | obj (C : Str) (ns : List Str) (vs : List D)
  | ref (n : Nat) | fn (x : Str) | exc (C : Str) (ns : List Str) (vs : List D)
  deriving Inhabited
/-- the world: strings' hashes -/
class Wd where
  w : World
def dOf : Key → D
  | .inl i => .int i
  | .inr x => .str x
mutual
def kD : TK → D
  | .a k => dOf k
  | .t l => .tup (kDs l)
def kDs : List TK → List D
  | [] => []
  | k :: ks => kD k :: kDs ks
end
/-- at a: a dict whose keys are tuples; its keys, where they stand, the values -/
def dN [Wd] (a : Addr) (xs : List (TK × Addr × Value)) : HO := .ext fun h => xs.length ≤ sizeLine ∧ (a == sysModules) = false ∧ (xs.map (·.1)).Nodup ∧
  ∃ o es ep, h.get? a = some o ∧ o.ExactDict ∧ o.data = .dict es ep ∧ es.toList = xs.map fun x => ⟨hashK Wd.w x.1, .ref x.2.1, x.2.2⟩
/-- at a: an exception -/
def excO (a C : Addr) (d : Option Addr) : HO := .ext fun h => ∃ vs sl, h.get? a = some { cls := .ref C, dict := d, data := .fields vs, slots := sl }
/-- what a dict holds: u stands at a, its keys' values, its values; ks: the keys -/
inductive DctC [Wd] (a : Addr) : HO → List V → List V → List D → Prop
  | k (kvs : List (Key × V)) (ks : List D) : DctC a (.dK kvs) (kvs.map fun p => kV p.1) (kvs.map (·.2)) ks
  | t (xs : List (TK × Addr × Value)) (vv : List V) : xs ≠ [] → Vals vv (xs.map (·.2.2)) → (∀ x ∈ xs, tdep x.1 ≤ 8 ∧ ∃ l, x.1 = .t l) → DctC a (dN a xs) (xs.map fun x => .ref x.2.1) vv (xs.map fun x => kD x.1)

inductive O where
  | lst (xs : List D) | dct (ks vs : List D) | ins (C : Str) (ns : List Str) (vs : List D) | gone
  deriving Inhabited

def O.live : O → Bool
  | .gone => false
  | _ => true

abbrev G := List O

structure Exn where
  cls : Str
  ns : List Str
  vs : List D
  deriving Inhabited

inductive R (α : Type) where
  | ok (a : α) (g : G)
  | ex (e : Exn) (g : G)
  | bad

abbrev M (α : Type) := G → R α

def R.bind {α β : Type} (r : R α) (k : α → M β) : R β :=
  match r with
  | .ok a g => k a g
  | .ex e g => .ex e g
  | .bad => .bad

instance : Monad M where
  pure a := fun g => .ok a g
  bind m k := fun g => (m g).bind k

def M.bad {α : Type} : M α := fun _ => .bad
def M.raise {α : Type} (e : Exn) : M α := fun g => .ex e g

theorem bind_def {α β : Type} (m : M α) (k : α → M β) (g : G) : (m >>= k) g = (m g).bind k := rfl
theorem pure_def {α : Type} (a : α) (g : G) : (pure a : M α) g = .ok a g := rfl

/-- the addresses that are owned -/
def Own (mu : List Addr) (g : G) (a : Addr) : Prop := ∃ (n : Nat) (o : O), mu[n]? = some a ∧ g[n]? = some o ∧ o.live = true

/-- a tuple, a list that nobody changes any more -/
def TupAt (K : PySem.W.Frag) (own : Addr → Prop) (H : Hp) (a : Addr) (vs : List V) : Prop :=
  (¬ own a ∧ Rd H a (.tup vs)) ∨ ∃ (o : Obj) (its : Array Value) (n : Nat), K.lookup a = some o ∧ o.cls = .type "tuple" ∧ o.data = .seq its n ∧ its.size ≤ sizeLine ∧ Vals vs its.toList
def LstAt (K : PySem.W.Frag) (own : Addr → Prop) (H : Hp) (a : Addr) (vs : List V) : Prop :=
  (¬ own a ∧ Rd H a (.lst vs)) ∨ ∃ (o : Obj) (its : Array Value) (n : Nat), K.lookup a = some o ∧ o.cls = .type "list" ∧ o.dict = none ∧ o.data = .seq its n ∧ its.size ≤ sizeLine ∧ Vals vs its.toList
theorem TupAt.seq {K : PySem.W.Frag} {own : Addr → Prop} {H : Hp} {a : Addr} {vs : List V} (h : TupAt K own H a vs) : SqT K H a vs :=
  h.elim (fun z => .inl z.2) .inr
theorem LstAt.seq {K : PySem.W.Frag} {own : Addr → Prop} {H : Hp} {a : Addr} {vs : List V} (h : LstAt K own H a vs) : SqL K H a vs :=
  h.elim (fun z => .inl z.2) .inr

section
variable [Wd]
mutual
inductive RV (K : PySem.W.Frag) (own : Addr → Prop) (mu : List Addr) (H : Hp) : V → D → Prop
  | non : RV K own mu H .non .non
  | bl (b : Bool) : RV K own mu H (.bl b) (.bl b)
  | int (i : Int) : RV K own mu H (.int i) (.int i)
  | str (x : Str) : RV K own mu H (.str x) (.str x)
  | tup {a : Addr} {vs : List V} {ds : List D} : TupAt K own H a vs → RVs K own mu H vs ds → RV K own mu H (.ref a) (.tup ds)
  | lst {a : Addr} {vs : List V} {ds : List D} : LstAt K own H a vs → RVs K own mu H vs ds → RV K own mu H (.ref a) (.lst ds)
  | dct {a : Addr} {o : Obj} {u : HO} {kv vv : List V} {ks ds : List D} : ¬ own a → H a = some (.frz o u) → DctC a u kv vv ks → RVs K own mu H kv ks → RVs K own mu H vv ds → RV K own mu H (.ref a) (.dct ks ds)
  | exc0 {a : Addr} {C : Str} : ¬ own a → H a = some (excO a (He.ga K C) none) → RV K own mu H (.ref a) (.exc C [] [])
  | exc1 {a dx : Addr} {C : Str} {fs : List (Str × V)} {ds : List D} : ¬ own a → H a = some (excO a (He.ga K C) (some dx)) → ¬ own dx → H dx = some (.xd fs) → RVs K own mu H (fs.map (·.2)) ds → RV K own mu H (.ref a) (.exc C (fs.map (·.1)) ds)
  | obj {a dx : Addr} {C : Str} {fs : List (Str × V)} {ds : List D} : ¬ own a → H a = some (.ins (He.ga K C) dx fs) → RVs K own mu H (fs.map (·.2)) ds → RV K own mu H (.ref a) (.obj C (fs.map (·.1)) ds)
  | ref {n : Nat} {a : Addr} : mu[n]? = some a → RV K own mu H (.ref a) (.ref n)
  | fn (x : Str) : RV K own mu H (.ref (He.ga K x)) (.fn x)
inductive RVs (K : PySem.W.Frag) (own : Addr → Prop) (mu : List Addr) (H : Hp) : List V → List D → Prop
  | nil : RVs K own mu H [] []
  | cons {v : V} {vs : List V} {d : D} {ds : List D} : RV K own mu H v d → RVs K own mu H vs ds → RVs K own mu H (v :: vs) (d :: ds)
end
end

theorem pre_get {α : Type} {l l' : List α} {i : Nat} {x : α} (h : l <+: l') (e : l[i]? = some x) : l'[i]? = some x := by
  obtain ⟨t, rfl⟩ := h
  obtain ⟨hi, _⟩ := List.getElem?_eq_some_iff.mp e
  rw [List.getElem?_append_left hi]
  exact e
section
variable [Wd] {K : PySem.W.Frag} {own own' : Addr → Prop} {mu mu' : List Addr} {H H' : Hp}

theorem TupAt.mono (hf : ∀ a o, H a = some o → ¬ own a → H' a = some o) (ho : ∀ a, own' a → own a ∨ H a = none) {a : Addr} {vs : List V} (h : TupAt K own H a vs) : TupAt K own' H' a vs := by
  rcases h with ⟨h1, h2⟩ | h
  · left
    have hx : ∃ o, H a = some o := by
      rcases h2 with h | ⟨o, h⟩
      · exact ⟨_, h⟩
      · exact ⟨_, h⟩
    obtain ⟨o, hx⟩ := hx
    refine ⟨fun z => ?_, ?_⟩
    · rcases ho a z with q | q
      · exact h1 q
      · rw [hx] at q; cases q
    · rcases h2 with h | ⟨o, h⟩
      · exact .inl (hf _ _ h h1)
      · exact .inr ⟨o, hf _ _ h h1⟩
  · exact .inr h
theorem LstAt.mono (hf : ∀ a o, H a = some o → ¬ own a → H' a = some o) (ho : ∀ a, own' a → own a ∨ H a = none) {a : Addr} {vs : List V} (h : LstAt K own H a vs) : LstAt K own' H' a vs := by
  rcases h with ⟨h1, h2⟩ | h
  · left
    have hx : ∃ o, H a = some o := by
      rcases h2 with h | ⟨o, h⟩
      · exact ⟨_, h⟩
      · exact ⟨_, h⟩
    obtain ⟨o, hx⟩ := hx
    refine ⟨fun z => ?_, ?_⟩
    · rcases ho a z with q | q
      · exact h1 q
      · rw [hx] at q; cases q
    · rcases h2 with h | ⟨o, h⟩
      · exact .inl (hf _ _ h h1)
      · exact .inr ⟨o, hf _ _ h h1⟩
  · exact .inr h
theorem nown_mono (ho : ∀ a, own' a → own a ∨ H a = none) {a : Addr} {o : HO} (h1 : ¬ own a) (h2 : H a = some o) : ¬ own' a := fun z => by
  rcases ho a z with q | q
  · exact h1 q
  · rw [h2] at q; cases q
mutual
theorem RV.mono (hf : ∀ a o, H a = some o → ¬ own a → H' a = some o) (ho : ∀ a, own' a → own a ∨ H a = none) (hm : mu <+: mu') : ∀ {d : D} {v : V}, RV K own mu H v d → RV K own' mu' H' v d
  | _, _, .non => .non
  | _, _, .bl b => .bl b
  | _, _, .int i => .int i
  | _, _, .str x => .str x
  | _, _, .tup h r => .tup (h.mono hf ho) (RVs.mono hf ho hm r)
  | _, _, .lst h r => .lst (h.mono hf ho) (RVs.mono hf ho hm r)
  | _, _, .dct h1 h2 h3 r r' => .dct (nown_mono ho h1 h2) (hf _ _ h2 h1) h3 (RVs.mono hf ho hm r) (RVs.mono hf ho hm r')
  | _, _, .exc0 h1 h2 => .exc0 (nown_mono ho h1 h2) (hf _ _ h2 h1)
  | _, _, .exc1 h1 h2 h3 h4 r => .exc1 (nown_mono ho h1 h2) (hf _ _ h2 h1) (nown_mono ho h3 h4) (hf _ _ h4 h3) (RVs.mono hf ho hm r)
  | _, _, .obj h1 h2 r => .obj (nown_mono ho h1 h2) (hf _ _ h2 h1) (RVs.mono hf ho hm r)
  | _, _, .ref h => .ref (pre_get hm h)
  | _, _, .fn x => .fn x
theorem RVs.mono (hf : ∀ a o, H a = some o → ¬ own a → H' a = some o) (ho : ∀ a, own' a → own a ∨ H a = none) (hm : mu <+: mu') : ∀ {ds : List D} {vs : List V}, RVs K own mu H vs ds → RVs K own' mu' H' vs ds
  | _, _, .nil => .nil
  | _, _, .cons h r => .cons (RV.mono hf ho hm h) (RVs.mono hf ho hm r)
end
end
/-! ### the heaps -/
section
variable [Wd] (K : PySem.W.Frag)
/-- what stands at an address that the heap g has -/
def OR (own : Addr → Prop) (mu : List Addr) (H : Hp) (a : Addr) : O → Prop
  | .lst ds => ∃ vs, H a = some (.lst vs) ∧ RVs K own mu H vs ds
  | .dct ks ds => ∃ u kv vv, H a = some u ∧ DctC a u kv vv ks ∧ RVs K own mu H kv ks ∧ RVs K own mu H vv ds
  | .ins C ns ds => ∃ dx fs, H a = some (.ins (He.ga K C) dx fs) ∧ fs.map (·.1) = ns ∧ RVs K own mu H (fs.map (·.2)) ds
  | .gone => ∃ o, H a = some o

structure Sim (mu : List Addr) (g : G) (H : Hp) : Prop where
  len : mu.length = g.length
  nd : mu.Nodup
  at_ : ∀ (n : Nat) (o : O) (a : Addr), g[n]? = some o → mu[n]? = some a → OR K (Own mu g) mu H a o

structure Ext (mu : List Addr) (g : G) (H : Hp) (mu' : List Addr) (g' : G) (H' : Hp) : Prop where
  pre : mu <+: mu'
  fr : ∀ a o, H a = some o → ¬ Own mu g a → H' a = some o
  ow : ∀ a, Own mu' g' a → Own mu g a ∨ H a = none
  th : ∀ a o, H a = some o → ∃ o', H' a = some o'
end
section
variable [Wd] {K : PySem.W.Frag} {mu mu1 mu2 : List Addr} {g g1 g2 : G} {H H1 H2 : Hp}
theorem Ext.refl : Ext mu g H mu g H := ⟨List.prefix_refl _, fun _ _ h _ => h, fun _ h => .inl h, fun _ o h => ⟨o, h⟩⟩
theorem Ext.trans (a : Ext mu g H mu1 g1 H1) (b : Ext mu1 g1 H1 mu2 g2 H2) : Ext mu g H mu2 g2 H2 where
  pre := a.pre.trans b.pre
  fr := fun x o h n => b.fr x o (a.fr x o h n) fun z => by
    rcases a.ow x z with q | q
    · exact n q
    · rw [h] at q; cases q
  ow := fun x z => by
    rcases b.ow x z with q | q
    · exact a.ow x q
    · right
      cases e : H x with
      | none => rfl
      | some o =>
        obtain ⟨o', e'⟩ := a.th x o e
        rw [q] at e'; cases e'
  th := fun x o h => by
    obtain ⟨o', h'⟩ := a.th x o h
    exact b.th x o' h'
theorem RV.ext (e : Ext mu g H mu1 g1 H1) {d : D} {v : V} (h : RV K (Own mu g) mu H v d) : RV K (Own mu1 g1) mu1 H1 v d := h.mono e.fr e.ow e.pre
theorem RVs.ext (e : Ext mu g H mu1 g1 H1) {ds : List D} {vs : List V} (h : RVs K (Own mu g) mu H vs ds) : RVs K (Own mu1 g1) mu1 H1 vs ds := h.mono e.fr e.ow e.pre
/-- the names' values -/
structure RE (K : PySem.W.Frag) (own : Addr → Prop) (mu : List Addr) (H : Hp) (σ : L2.St) (ρ : List (Option D)) : Prop where
  len : σ.length = ρ.length
  at_ : ∀ (i : Nat) (d : D), ρ[i]? = some (some d) → ∃ v, σ[i]? = some (some v) ∧ RV K own mu H v d
theorem RE.ext (e : Ext mu g H mu1 g1 H1) {σ : L2.St} {ρ : List (Option D)} (h : RE K (Own mu g) mu H σ ρ) : RE K (Own mu1 g1) mu1 H1 σ ρ :=
  ⟨h.len, fun i d q => let ⟨v, q1, q2⟩ := h.at_ i d q; ⟨v, q1, q2.ext e⟩⟩
theorem Sim.tracked (S : Sim K mu g H) {n : Nat} {a : Addr} (h : mu[n]? = some a) : ∃ o, H a = some o := by
  have hn : n < g.length := by
    rw [← S.len]
    exact (List.getElem?_eq_some_iff.mp h).1
  have q := S.at_ n g[n] a (List.getElem?_eq_getElem hn) h
  cases e : g[n] with
  | lst ds => rw [e] at q; obtain ⟨vs, q, _⟩ := q; exact ⟨_, q⟩
  | dct ks ds => rw [e] at q; obtain ⟨u, kv, vv, q, _⟩ := q; exact ⟨_, q⟩
  | ins C ns ds => rw [e] at q; obtain ⟨dx, vs, q, _⟩ := q; exact ⟨_, q⟩
  | gone => rw [e] at q; exact q
/-- a new object that nobody owns -/
theorem Ext.new {p : Addr} {o : HO} (hp : H p = none) : Ext mu g H mu g (upd H p o) :=
  ⟨List.prefix_refl _, fun a u h _ => by rw [upd_ne (ne_of_none h hp)]; exact h, fun _ h => .inl h, fun a u h => ⟨u, by rw [upd_ne (ne_of_none h hp)]; exact h⟩⟩
theorem OR.ext (e : Ext mu g H mu1 g1 H1) {a : Addr} {o : O} (h : OR K (Own mu g) mu H a o) (hk : ∀ u, H a = some u → H1 a = some u) : OR K (Own mu1 g1) mu1 H1 a o := by
  cases o with
  | lst ds => obtain ⟨vs, q, r⟩ := h; exact ⟨vs, hk _ q, r.ext e⟩
  | dct ks ds => obtain ⟨u, kv, vv, q, c, r, r'⟩ := h; exact ⟨u, kv, vv, hk _ q, c, r.ext e, r'.ext e⟩
  | ins C ns ds => obtain ⟨dx, vs, q, n, r⟩ := h; exact ⟨dx, vs, hk _ q, n, r.ext e⟩
  | gone => obtain ⟨u, q⟩ := h; exact ⟨u, hk _ q⟩
theorem Sim.new (S : Sim K mu g H) {p : Addr} {o : HO} (hp : H p = none) : Sim K mu g (upd H p o) :=
  ⟨S.len, S.nd, fun n x a hg hm => (S.at_ n x a hg hm).ext (Ext.new hp) fun u hu => by rw [upd_ne (ne_of_none hu hp)]; exact hu⟩
theorem Sim.nown_fresh (S : Sim K mu g H) {p : Addr} (hp : H p = none) : ¬ Own mu g p := fun ⟨n, o, h, _⟩ => by
  obtain ⟨u, q⟩ := S.tracked h
  rw [hp] at q; cases q
theorem own_app {p : Addr} {x : O} (hl : mu.length = g.length) {a : Addr} (h : Own (mu ++ [p]) (g ++ [x]) a) : Own mu g a ∨ a = p := by
  obtain ⟨n, o, h1, h2, h3⟩ := h
  by_cases hn : n < mu.length
  · rw [List.getElem?_append_left hn] at h1
    rw [List.getElem?_append_left (by omega)] at h2
    exact .inl ⟨n, o, h1, h2, h3⟩
  · right
    have hn2 : n < (mu ++ [p]).length := (List.getElem?_eq_some_iff.mp h1).1
    have : n = mu.length := by rw [List.length_append] at hn2; simp at hn2; omega
    subst this
    simp at h1
    exact h1.symm
/-- a new object that is owned -/
theorem Ext.alloc (hl : mu.length = g.length) {p : Addr} {o : HO} {x : O} (hp : H p = none) : Ext mu g H (mu ++ [p]) (g ++ [x]) (upd H p o) :=
  ⟨List.prefix_append _ _, fun a u h _ => by rw [upd_ne (ne_of_none h hp)]; exact h, fun a h => (own_app hl h).elim .inl fun e => .inr (by rw [e]; exact hp), fun a u h => ⟨u, by rw [upd_ne (ne_of_none h hp)]; exact h⟩⟩
theorem Sim.alloc (S : Sim K mu g H) {p : Addr} {o : HO} {x : O} (hp : H p = none) (hx : OR K (Own (mu ++ [p]) (g ++ [x])) (mu ++ [p]) (upd H p o) p x) : Sim K (mu ++ [p]) (g ++ [x]) (upd H p o) where
  len := by simp [S.len]
  nd := by
    rw [List.nodup_append]
    refine ⟨S.nd, by simp, fun a ha b hb => ?_⟩
    have : b = p := by simpa using hb
    subst this
    intro e
    subst e
    obtain ⟨n, hn⟩ := List.mem_iff_getElem?.mp ha
    obtain ⟨u, q⟩ := S.tracked hn
    rw [hp] at q; cases q
  at_ := fun n u a hg hm => by
    by_cases hn : n < mu.length
    · rw [List.getElem?_append_left hn] at hm
      rw [List.getElem?_append_left (by rw [← S.len]; exact hn)] at hg
      exact (S.at_ n u a hg hm).ext (Ext.alloc S.len hp) fun w hw => by rw [upd_ne (ne_of_none hw hp)]; exact hw
    · have hn2 : n < (mu ++ [p]).length := (List.getElem?_eq_some_iff.mp hm).1
      have e : n = mu.length := by rw [List.length_append] at hn2; simp at hn2; omega
      subst e
      rw [S.len] at hg
      simp at hm hg
      subst hm hg
      exact hx
theorem own_set {n : Nat} {x y : O} (hx : g[n]? = some x) (hlx : x.live = true) {a : Addr} (h : Own mu (g.set n y) a) : Own mu g a := by
  obtain ⟨m, o, h1, h2, h3⟩ := h
  by_cases e : m = n
  · subst e
    exact ⟨m, x, h1, hx, hlx⟩
  · rw [List.getElem?_set_ne (Ne.symm e)] at h2
    exact ⟨m, o, h1, h2, h3⟩
/-- an owned object is changed -/
theorem Ext.set {n : Nat} {p : Addr} {x y : O} {o : HO} (hx : g[n]? = some x) (hlx : x.live = true) (hm : mu[n]? = some p) : Ext mu g H mu (g.set n y) (upd H p o) :=
  ⟨List.prefix_refl _, fun a u h k => by
    have ne : a ≠ p := fun e => k (by rw [e]; exact ⟨n, x, hm, hx, hlx⟩)
    rw [upd_ne ne]; exact h, fun a h => .inl (own_set hx hlx h), fun a u h => by
    by_cases e : a = p
    · subst e; exact ⟨o, upd_same⟩
    · exact ⟨u, by rw [upd_ne e]; exact h⟩⟩
theorem Sim.set (S : Sim K mu g H) {n : Nat} {p : Addr} {x y : O} {o : HO} (hx : g[n]? = some x) (hlx : x.live = true) (hm : mu[n]? = some p) (hy : OR K (Own mu (g.set n y)) mu (upd H p o) p y) : Sim K mu (g.set n y) (upd H p o) where
  len := by rw [List.length_set]; exact S.len
  nd := S.nd
  at_ := fun m u a hg hma => by
    by_cases e : m = n
    · subst e
      have hmn : m < g.length := (List.getElem?_eq_some_iff.mp hx).1
      rw [List.getElem?_set_self hmn] at hg
      cases hg
      rw [hm] at hma; cases hma
      exact hy
    · rw [List.getElem?_set_ne (Ne.symm e)] at hg
      refine (S.at_ m u a hg hma).ext (Ext.set hx hlx hm) fun w hw => ?_
      rw [upd_ne ?_]
      · exact hw
      · intro z
        subst z
        obtain ⟨h1, e1⟩ := List.getElem?_eq_some_iff.mp hma
        obtain ⟨h2, e2⟩ := List.getElem?_eq_some_iff.mp hm
        exact e ((List.getElem_inj S.nd).mp (e1.trans e2.symm))
/-- an owned object is let go: it stays as it is -/
theorem Ext.gone {n : Nat} {x : O} (hx : g[n]? = some x) (hlx : x.live = true) : Ext mu g H mu (g.set n .gone) H :=
  ⟨List.prefix_refl _, fun _ _ h _ => h, fun a h => .inl (own_set hx hlx h), fun _ u h => ⟨u, h⟩⟩
theorem Sim.gone (S : Sim K mu g H) {n : Nat} {p : Addr} {x : O} (hx : g[n]? = some x) (hlx : x.live = true) (hm : mu[n]? = some p) : Sim K mu (g.set n .gone) H where
  len := by rw [List.length_set]; exact S.len
  nd := S.nd
  at_ := fun m u a hg hma => by
    by_cases e : m = n
    · subst e
      have hmn : m < g.length := (List.getElem?_eq_some_iff.mp hx).1
      rw [List.getElem?_set_self hmn] at hg
      cases hg
      exact S.tracked hma
    · rw [List.getElem?_set_ne (Ne.symm e)] at hg
      exact (S.at_ m u a hg hma).ext (Ext.gone hx hlx) fun w hw => hw
theorem nown_gone (S : Sim K mu g H) {n : Nat} {p : Addr} (hm : mu[n]? = some p) : ¬ Own mu (g.set n .gone) p := fun ⟨m, o, h1, h2, h3⟩ => by
  have e : m = n := by
    obtain ⟨h1', e1⟩ := List.getElem?_eq_some_iff.mp h1
    obtain ⟨h2', e2⟩ := List.getElem?_eq_some_iff.mp hm
    exact (List.getElem_inj S.nd).mp (e1.trans e2.symm)
  subst e
  have hmn : m < g.length := by rw [← S.len]; exact (List.getElem?_eq_some_iff.mp hm).1
  rw [List.getElem?_set_self hmn] at h2
  cases h2
  cases h3
end

end DL

set_option Elab.async false
set_option linter.all false
set_option maxRecDepth 100000
set_option maxHeartbeats 4000000
/-! the deep layer: readings -/
namespace DL
open PySem PySem.Spec PyProof.Rows L2

section
variable [Wd]
/-- what stands for an exception: its class, its own dict -/
def XR (K : PySem.W.Frag) (own : Addr → Prop) (mu : List Addr) (H : Hp) (e : Exn) : Option Addr → Prop
  | none => e.ns = [] ∧ e.vs = []
  | some d => ∃ fs : List (Str × V), H d = some (.xd fs) ∧ ¬ own d ∧ fs.map (·.1) = e.ns ∧ RVs K own mu H (fs.map (·.2)) e.vs

def Wp {α : Type} (K : PySem.W.Frag) (X : XK) (mu : List Addr) (g : G) (H : Hp) (r : R α) (Q : List Addr → G → Hp → α → Prop) : Prop :=
  match r with
  | .ok a g' => ∀ mu' H', Ext mu g H mu' g' H' → Sim K mu' g' H' → Q mu' g' H' a
  | .ex e g' => ∀ mu' H' dx, Ext mu g H mu' g' H' → Sim K mu' g' H' → XR K (Own mu' g') mu' H' e dx → X (.ref (He.ga K e.cls)) dx H'
  | .bad => False
section
variable {α β : Type} {K : PySem.W.Frag} {X : XK} {mu mu1 : List Addr} {g g1 : G} {H H1 : Hp} {r : R α} {Q Q' : List Addr → G → Hp → α → Prop}
theorem Wp.mono (h : Wp K X mu g H r Q) (hq : ∀ mu' g' H' a, Ext mu g H mu' g' H' → Sim K mu' g' H' → Q mu' g' H' a → Q' mu' g' H' a) : Wp K X mu g H r Q' := by
  cases r with
  | ok a g' => exact fun mu' H' e s => hq _ _ _ _ e s (h mu' H' e s)
  | ex e g' => exact h
  | bad => exact h
/-- the state goes on -/
theorem Wp.ext (e : Ext mu g H mu1 g1 H1) (h : Wp K X mu g H r Q) : Wp K X mu1 g1 H1 r Q := by
  cases r with
  | ok a g' => exact fun mu' H' e' s => h mu' H' (e.trans e') s
  | ex x g' => exact fun mu' H' dx e' s => h mu' H' dx (e.trans e') s
  | bad => exact h
theorem Wp.bind {m : M α} {k : α → M β} {Q : List Addr → G → Hp → β → Prop} (h : Wp K X mu g H ((m g).bind k) Q) : Wp K X mu g H (m g) (fun mu' g' H' a => Wp K X mu' g' H' (k a g') Q) := by
  cases e : m g with
  | ok a g' =>
    rw [e] at h
    exact fun mu' H' e' s => Wp.ext e' h
  | ex x g' =>
    rw [e] at h
    exact h
  | bad =>
    rw [e] at h
    exact h
theorem Wp.here (S : Sim K mu g H) {a : α} (h : Wp K X mu g H (.ok a g) Q) : Q mu g H a := h _ _ .refl S
end

/-- wishes of exceptions with the slots -/
abbrev Env' := List (Option D)
abbrev FE := Env' → M D
/-- an expression's reading by a function -/
def tE (K : PySem.W.Frag) (W : WX) (F : FE) : TE := fun σ H Q => ∃ mu g ρ, Sim K mu g H ∧ RE K (Own mu g) mu H σ ρ ∧
  Wp K (fun c d H => W c d σ H) mu g H (F ρ g) fun mu' g' H' d => ∀ v, RV K (Own mu' g') mu' H' v d → Q v H'
def tT (K : PySem.W.Frag) (W : WX) (F : Env' → M Bool) : TT := fun σ H Q => ∃ mu g ρ, Sim K mu g H ∧ RE K (Own mu g) mu H σ ρ ∧
  Wp K (fun c d H => W c d σ H) mu g H (F ρ g) fun mu' g' H' b => Q b H'
def tA (K : PySem.W.Frag) (W : WX) (F : Env' → M (List D)) : TA := fun σ H Q => ∃ mu g ρ, Sim K mu g H ∧ RE K (Own mu g) mu H σ ρ ∧
  Wp K (fun c d H => W c d σ H) mu g H (F ρ g) fun mu' g' H' ds => ∀ vs, RVs K (Own mu' g') mu' H' vs ds → Q vs H'

inductive Fl where
  | nx | bk | ct | rt (d : D) | rs (e : Exn)
abbrev FS := Env' → M (Fl × Env')
/-- a statement's end -/
def flEnd (K : PySem.W.Frag) (W : WX) (D' : Ends) (mu : List Addr) (g : G) (H : Hp) : Fl × Env' → Prop
  | (.nx, ρ) => ∀ σ, RE K (Own mu g) mu H σ ρ → D'.nx σ H
  | (.bk, ρ) => ∀ σ, RE K (Own mu g) mu H σ ρ → D'.bk σ H
  | (.ct, ρ) => ∀ σ, RE K (Own mu g) mu H σ ρ → D'.ct σ H
  | (.rt d, _) => ∀ v, RV K (Own mu g) mu H v d → D'.rt v H
  | (.rs e, ρ) => ∀ σ dx, RE K (Own mu g) mu H σ ρ → XR K (Own mu g) mu H e dx → W (.ref (He.ga K e.cls)) dx σ H
def tS (K : PySem.W.Frag) (W : WX) (F : FS) : TS := fun D' σ H => ∃ mu g ρ, Sim K mu g H ∧ RE K (Own mu g) mu H σ ρ ∧
  Wp K (fun _ _ _ => False) mu g H (F ρ g) fun mu' g' H' x => flEnd K W D' mu' g' H' x

end
section
variable {X : Cx}
theorem pe_mono {e : Expr} {t t' : TE} (h : PE X e t) (m : ∀ σ H Q, t' σ H Q → t σ H Q) : PE X e t' := ⟨fun pins s σ H Q I q => h.run pins s σ H Q I (m σ H Q q)⟩
theorem pt_mono {e : Expr} {t t' : TT} (h : PT X e t) (m : ∀ σ H Q, t' σ H Q → t σ H Q) : PT X e t' := ⟨fun pins s σ H Q I q => h.run pins s σ H Q I (m σ H Q q)⟩
theorem pw_mono {e : Expr} {t t' : TT} (h : PW X e t) (m : ∀ σ H Q, t' σ H Q → t σ H Q) : PW X e t' := ⟨fun whole pins s σ H Q I q => h.run whole pins s σ H Q I (m σ H Q q)⟩
theorem pa_mono {e : List Expr} {t t' : TA} (h : PA X e t) (m : ∀ σ H Q, t' σ H Q → t σ H Q) : PA X e t' := ⟨fun pos pins s σ H Q I q => h.run pos pins s σ H Q I (m σ H Q q)⟩
theorem ps_mono {e : Stmt} {t t' : TS} (h : PS X e t) (m : ∀ D' σ H, t' D' σ H → t D' σ H) : PS X e t' := ⟨fun pins s σ H Q I q => h.run pins s σ H Q I (m Q σ H q)⟩
theorem pss_mono {e : List Stmt} {t t' : TS} (h : PSs X e t) (m : ∀ D' σ H, t' D' σ H → t D' σ H) : PSs X e t' := ⟨fun pins s σ H Q I q => h.run pins s σ H Q I (m Q σ H q)⟩
theorem pe_bad {e : Expr} {t : TE} (m : ∀ σ H Q, ¬ t σ H Q) : PE X e t := ⟨fun pins s σ H Q I q => (m σ H Q q).elim⟩
end

/-! ### rules that the layer lacks -/
theorem fmc {α β : Type} {f g : α → Option β} : ∀ {l : List α}, (∀ x ∈ l, f x = g x) → l.filterMap f = l.filterMap g
  | [], _ => rfl
  | a :: l, h => by
    rw [List.filterMap_cons, List.filterMap_cons, h a (List.mem_cons_self ..), fmc fun x hx => h x (List.mem_cons_of_mem _ hx)]
theorem sliceApplied_rev {prog : Program} {w : World} {A : Around} {E : Value → Shared → Prop} {s : Shared} {sl : Addr} {tk n : Nat} {Q : Int × Int × Nat → Shared → Prop} (hs : s.heap.IsSliceOf sl .none .none (.int (-1) tk)) (h : Q ((n : Int) - 1, -1, n) s) :
    wpAny (model prog w) A (Builtin.Slice.sliceApplied (.ref sl) (pure (n : Int))) Q E s := by
  obtain ⟨os, hos, hcs, hds⟩ := hs
  unfold Builtin.Slice.sliceApplied Builtin.Slice.sliceFields
  refine wpAny_bind (wpAny_bind (wpAny_field hos hds rfl (wpAny_bind (wpAny_field hos hds rfl (wpAny_bind (wpAny_field hos hds rfl (wpAny_pure ?_)))))))
  refine wpAny_bind (HT.slicePart_ (o := some (-1)) (.int _ _) ?_)
  show wpAny _ _ (if ((-1 : Int) == 0) = true then _ else _) _ _ _
  rw [if_neg (by decide)]
  refine wpAny_bind (slicePart_none (wpAny_bind (slicePart_none (wpAny_bind (wpAny_pure ?_)))))
  have e : Builtin.Slice.sliceAdjust none none (-1) n = ((n : Int) - 1, -1) := rfl
  have e2 : Builtin.Slice.slicePlaces ((n : Int) - 1) (-1) (-1) = n := by
    unfold Builtin.Slice.slicePlaces
    rw [if_neg (by decide)]
    split
    · simp
    · simp; omega
  show wpAny _ _ (pure ((n : Int) - 1, (-1 : Int), Builtin.Slice.slicePlaces ((n : Int) - 1) (-1) (-1))) _ _ _
  rw [e2]
  exact wpAny_pure h
theorem rev_places {α : Type} (xs : Array α) : List.filterMap (fun k => xs[((xs.size : Int) - 1 + (k : Nat) * (-1)).toNat]?) (List.range xs.size) = xs.toList.reverse := by
  have key : ∀ (ys : List α), List.filterMap (fun k => ys[((ys.length : Int) - 1 + (k : Nat) * (-1)).toNat]?) (List.range ys.length) = ys.reverse := by
    intro ys
    have h1 : List.filterMap (fun k => ys[((ys.length : Int) - 1 + (k : Nat) * (-1)).toNat]?) (List.range ys.length) = List.filterMap (fun k => ys.reverse[k]?) (List.range ys.reverse.length) := by
      rw [List.length_reverse]
      refine fmc fun k hk => ?_
      have hk := List.mem_range.mp hk
      rw [List.getElem?_reverse hk]
      congr 1
      omega
    rw [h1]
    generalize ys.reverse = zs
    induction zs with
    | nil => rfl
    | cons z zs ih =>
      rw [List.length_cons, List.range_succ_eq_map, List.filterMap_cons]
      simp only [List.getElem?_cons_zero, List.filterMap_map]
      congr 1
  have := key xs.toList
  simpa using this
theorem getItem_tuple_rev {prog : Program} {w : World} {A : Around} {E : Value → Shared → Prop} {s : Shared} {t sl : Addr} {items : Array Value} {tk : Nat} {Q : Value → Shared → Prop} (ht : IsTup s.heap t items) (hs : s.heap.IsSliceOf sl .none .none (.int (-1) tk)) (hsz : items.size ≤ sizeLine)
    (h : Q (.ref s.heap.objs.size) { s with heap := s.heap.push { cls := .type "tuple", data := .seq items.toList.reverse.toArray } }) : wpAny (model prog w) A (getItem (.ref t) (.ref sl)) Q E s := by
  have hs' := hs
  obtain ⟨os, hos, hcs, hds⟩ := hs
  unfold getItem
  refine wpAny_holding (wpAny_bind (wpAny_sequenceKey (IsTup.typeIs ht) (by decide) (wpAny_bind (wpAny_callSpecial?_slot (IsTup.typeIs ht) slot_tuple_getitem (wpAny_call_entry slot_tuple_getitem (IsTup.typeIs ht) entry_tuple_getitem ?_)))))
  unfold Builtin.«tuple.__getitem__»
  have e0 : slotArgs "__getitem__" 1 { pos := [Value.ref t, Value.ref sl] } = pure (Value.ref t, [Value.ref sl]) := rfl
  rw [e0]
  refine wpAny_bind (wpAny_pure ?_)
  have hTs : s.TypeIs (.ref sl) "slice" := ⟨os, hos, hcs⟩
  refine wpAny_bind (tupleItemsOf_ ht (wpAny_bind (wpAny_typeOf hTs ?_)))
  rw [if_pos (by decide)]
  refine wpAny_bind (sliceApplied_rev hs' ?_)
  have hc : ¬ (((items.size : Int) - 1 == 0 && (-1 : Int) == 1 && items.size == items.size) = true) := by simp
  dsimp only
  rw [if_neg hc, rev_places]
  have hz : ¬ (items.toList.reverse.toArray.size > sizeLine) := by simp; omega
  have e1 : Builtin.Tuple.tupleExact items.toList.reverse.toArray = (do
      let a ← alloc { cls := .type "tuple", data := .seq items.toList.reverse.toArray }
      pure (Value.ref a)) := by
    unfold Builtin.Tuple.tupleExact newObj
    simp only [if_neg hz]
    rfl
  rw [e1]
  refine wpAny_bind (wpAny_bind (wpAny_alloc (wpAny_pure ?_)))
  exact wpAny_pure ⟨_, rfl, wpAny_pure h⟩


/-- t[::-1] -/
def tRevT (K : PySem.W.Frag) (te : TE) : TE := fun σ H Q => te σ H fun x H1 => ∃ a xs, x = V.ref a ∧ SqT K H1 a xs ∧ ∀ p, H1 p = none → Q (V.ref p) (upd H1 p (HO.tup xs.reverse))
theorem vals_rev : ∀ {vs : List V} {us : List Value}, Vals vs us → Vals vs.reverse us.reverse
  | _, _, .nil => .nil
  | _, _, .cons h r => by
    rw [List.reverse_cons, List.reverse_cons]
    exact Vals.append (vals_rev r) (.cons h .nil)
theorem pe_revT {X : Cx} {e : Expr} {te : TE} {k : Nat} {p1 p2 p3 pos : Pos} (he : PE X e te) :
    PE X (.Subscript e (.Slice none none (some (.UnaryOp .USub (.Constant (.int 1) k p1) p2)) p3) pos) (tRevT X.K te) := by
  refine ⟨fun pins s σ H Q I h => ?_⟩
  refine Subscript_ (thn (he.run pins s σ H _ I h) fun v s1 ⟨x, H1, I1, r1, a, xs, ex, hx, q⟩ => ?_)
  subst ex
  cases r1
  have hst : PO X (some (.UnaryOp .USub (.Constant (.int 1) k p1) p2)) _ := po_some (pe_un un_neg pe_int)
  refine wpAny_Slice (thn (po_none.run pins s1 σ H1 (fun o H2 => o = none ∧ H2 = H1) I1 ⟨rfl, rfl⟩) fun vl s2 ⟨l, H2, I2, pl, el, e2⟩ => ?_)
  subst el e2
  refine thn (po_none.run pins s2 σ H2 (fun o H3 => o = none ∧ H3 = H2) I2 ⟨rfl, rfl⟩) fun vu s3 ⟨u, H3, I3, pu, eu, e3⟩ => ?_
  subst eu e3
  refine thn (hst.run pins s3 σ H3 (fun o H4 => o = some (-1) ∧ H4 = H3) I3 ⟨1, rfl, _, rfl, rfl, rfl⟩) fun vt s4 ⟨t, H4, I4, pt, et, e4⟩ => ?_
  subst et e4
  cases pl
  cases pu
  cases pt
  rename_i tk _
  have I5 := I4.kept (t' := s4.toks) fun b ob q => Heap.get?_push_of_some { cls := Value.type "slice", data := Data.fields #[Value.none, Value.none, Value.int (-1) tk] } q
  obtain ⟨its, r, ht, hz⟩ := I5.tuple hx
  have hlen : its.toArray.size = xs.length := by rw [List.size_toArray, ← r.length]
  refine tail_any (ops := _) ht.typeIs slot_tuple_getitem.lookup (getItem_tuple_rev ht (Heap.IsSliceOf.new s4.1 _ _ _) (by rw [hlen]; exact hz) ?_) (Eq.refl (subscripted (Expr.Slice none none (some (Expr.UnaryOp UnaryOp.USub (Expr.Constant (Const.int 1) k p1) p2)) p3) false (Value.ref a) (Value.ref s4.heap.objs.size)))
  refine ⟨.ref _, upd H4 _ (.tup xs.reverse), I5.laid (fun b ob q => Heap.get?_push_of_some _ q) (Nat.le_refl _) ⟨by simpa using hz, its.reverse, vals_rev r, ?_⟩, rfl, q _ (HOk.fresh I5.hok (Nat.le_refl _))⟩
  have := IsTup.new (s4.heap.push { cls := Value.type "slice", data := Data.fields #[Value.none, Value.none, Value.int (-1) tk] }) its.reverse.toArray
  simpa using this
def IteT (K : PySem.W.Frag) (a : Addr) (m : Nat) : It where
  go := fun i H => ∃ xs x, SqT K H a xs ∧ xs.length = m ∧ xs[i]? = some x
  yld := fun i H v H' => ∃ T x, v = .ref T ∧ H T = none ∧ H' = upd H T (.tup [.int (i : Nat), x]) ∧ ∀ xs, SqT K H a xs → xs[i]? = some x
  stop := fun i H => ∃ xs, SqT K H a xs ∧ xs.length = m ∧ m ≤ i
theorem turn_enumT {P : Program} {w : World} {K : PySem.W.Frag} {elts : List Expr} {kk : Nat} {tpos : Pos} (a e it : Addr) (m : Nat) :
    Turn P w K (.Tuple elts kk tpos) (IteT K a m) [e, it] e fun i h => (∃ old, IsEnum h e it (i : Nat) old) ∧ h.IsTupleIter it a i ∧ e ≠ it ∧ i ≤ m where
  mem := by simp
  obj := by
    intro i h st b hb
    obtain ⟨⟨old, he⟩, ⟨o, ho, hc, hd⟩, hne, him⟩ := st
    simp only [List.mem_cons, List.not_mem_nil, or_false] at hb
    rcases hb with rfl | rfl
    · exact ⟨_, he, fun v q => by cases q⟩
    · exact ⟨o, ho, fun v q => by rw [hd] at q; cases q⟩
  keep := by
    intro i h h' st k
    obtain ⟨⟨old, he⟩, ⟨o, ho, hc, hd⟩, hne, him⟩ := st
    exact ⟨⟨old, k e (by simp) _ he⟩, ⟨o, k it (by simp) o ho, hc, hd⟩, hne, him⟩
  self := by
    intro A i s Q E st h
    obtain ⟨⟨old, he⟩, _⟩ := st
    exact wpAny_pyIter_enum he h
  item := by
    intro X hP hw hK hc i pins s σ H E I hf st hg
    subst hP hw hK
    obtain ⟨⟨old, he⟩, hit, hne, him⟩ := st
    obtain ⟨xs, x, hq, hm, hx⟩ := hg
    obtain ⟨its, rv, ht, hz⟩ := I.tuple hq
    obtain ⟨u, hu, ru⟩ := rv.get hx
    have hae : a ≠ e := by
      rintro rfl
      obtain ⟨o, h1, h2, _⟩ := ht
      unfold IsEnum at he
      rw [h1] at he
      cases he
      injection h2 with z
      exact absurd z (by decide)
    have hai : a ≠ it := by
      rintro rfl
      obtain ⟨o, h1, h2, _⟩ := ht
      obtain ⟨o', h1', h2', _⟩ := hit
      rw [h1] at h1'
      cases h1'
      rw [h2] at h2'
      injection h2' with z
      exact absurd z (by decide)
    have hh : X.A.in1.handled = none := I.ok.hd hc
    have hnm : e ∉ [it, a] := by
      intro z
      simp only [List.mem_cons, List.not_mem_nil, or_false] at z
      rcases z with z | z
      · exact hne z
      · exact hae z.symm
    have G := GoesN.enumFrom (prog := X.prog) (w := X.w) (A := X.A) (elts := elts) (x1 := kk) (pos := tpos) 0 (Draws.tuple (A := X.A.in1) hh it a hai its.toArray) e hne hnm (List.mem_cons_self ..)
    have hi : i < its.toArray.size := by
      have := (List.getElem?_eq_some_iff.mp hu).1
      simpa using this
    refine G.goes i s _ E hi ⟨⟨old, by rw [Int.zero_add]; exact he⟩, hit, ht⟩ fun v h' tk ⟨T, t, y, ev, hT, hP, hTup⟩ ⟨⟨old', he'⟩, hit', _⟩ hk htk => ?_
    subst ev
    have ey : y = u := by
      rw [List.getElem?_toArray, hu] at hP
      exact (Option.some.inj hP).symm
    subst ey
    rw [Int.zero_add] at hTup he'
    have hel : e < s.heap.objs.size := Heap.lt_size he
    have hil : it < s.heap.objs.size := by
      obtain ⟨o, q, _⟩ := hit
      exact Heap.lt_size q
    have new : ObjOk X.prog X.w (upd H T (.tup [.int (i : Nat), x])) h' T (.tup [.int (i : Nat), x]) := ⟨by show 2 ≤ sizeLine; decide, [Value.int (i : Nat) t, y], .cons ⟨t, rfl⟩ (.cons ru .nil), hTup⟩
    have I1 := I.turnedNew (t' := tk) (ch := [e, it]) (fun b ob hb q => hk b ob hb q) hf hT new
    refine ⟨.ref T, _, I1, rfl, ⟨T, x, rfl, HOk.fresh I.hok hT, rfl, fun ys hy => ?_⟩, ⟨⟨old', he'⟩, hit', hne, by have := (List.getElem?_eq_some_iff.mp hx).1; omega⟩, fun b hb => ?_⟩
    · rw [I.tuple_inj hy hq]; exact hx
    · have hb' : b < s.heap.objs.size := by
        simp only [List.mem_cons, List.not_mem_nil, or_false] at hb
        rcases hb with rfl | rfl
        · exact hel
        · exact hil
      rw [upd_ne (Nat.ne_of_lt (Nat.lt_of_lt_of_le hb' hT))]
      exact (hf b hb).1
  done := by
    intro X hP hw hK hc i pins s σ H E I hf st hg
    subst hP hw hK
    obtain ⟨⟨old, he⟩, hit, hne, him⟩ := st
    obtain ⟨xs, hq, hm, hx⟩ := hg
    obtain ⟨its, rv, ht, hz⟩ := I.tuple hq
    have hae : a ≠ e := by
      rintro rfl
      obtain ⟨o, h1, h2, _⟩ := ht
      unfold IsEnum at he
      rw [h1] at he
      cases he
      injection h2 with z
      exact absurd z (by decide)
    have hai : a ≠ it := by
      rintro rfl
      obtain ⟨o, h1, h2, _⟩ := ht
      obtain ⟨o', h1', h2', _⟩ := hit
      rw [h1] at h1'
      cases h1'
      rw [h2] at h2'
      injection h2' with z
      exact absurd z (by decide)
    have hh : X.A.in1.handled = none := I.ok.hd hc
    have hnm : e ∉ [it, a] := by
      intro z
      simp only [List.mem_cons, List.not_mem_nil, or_false] at z
      rcases z with z | z
      · exact hne z
      · exact hae z.symm
    have G := GoesN.enumFrom (prog := X.prog) (w := X.w) (A := X.A) (elts := elts) (x1 := kk) (pos := tpos) 0 (Draws.tuple (A := X.A.in1) hh it a hai its.toArray) e hne hnm (List.mem_cons_self ..)
    have hl : its.toArray.size = i := by
      rw [List.size_toArray, ← rv.length]
      omega
    refine G.stops s (fun s1 => L2.Inv X pins σ H s1) E ⟨⟨old, ?_⟩, by rw [hl]; exact hit, ht⟩ fun h' tk hk htk => I.turnedL (ch := [e, it]) (fun b ob hb q => hk b ob hb q) hf
    rw [hl, Int.zero_add]
    exact he
theorem meets_enumB {v : Value} {o : Obj} {H : Heap → Prop} (B : Begins v o H) : Meets (Builtin.«enumerate.__new__» { pos := [.type "enumerate", v] }) fun _ R s => H s.heap ∧ R (.ok (.ret (.ref (s.heap.push o).objs.size))) { s with heap := (s.heap.push o).push { cls := .type "enumerate", data := .fields #[.none, .bool false, .ref s.heap.objs.size, rawInt 0, .none, .none] } } := by
  intro prog w A R s ⟨h1, h2⟩
  have e1 : Builtin.SmallTypes.newClass "enumerate" { pos := [.type "enumerate", v] } = pure (.type "enumerate", [v]) := rfl
  unfold Builtin.«enumerate.__new__»
  rw [e1]
  refine wpAny_bind (wpAny_pure ?_)
  dsimp only
  rw [if_pos (by decide)]
  unfold Builtin.SmallTypes.calledThroughType
  refine wpAny_bind (wpAny_bind (wpAny_stack fun st _ _ _ => wpAny_pure ?_))
  have fin : wpAny (model prog w) A.in1 (do
      let it ← pyIter v
      let r ← Builtin.SmallTypes.newRecord (.type "enumerate") (Builtin.SmallTypes.ownedTupleFields ++ [it, rawInt 0, .none, .none])
      ret r) (fun fin s' => match fin with
        | Fin.done f => R (Except.ok f) s'
        | Fin.again c' => c'.quiet = true ∧ codeAny (model prog w) A c' R s') (fun e s' => R (Except.error e) s') s := by
    refine wpAny_bind (B.iter _ _ _ _ _ _ h1 ?_)
    have e2 : Builtin.SmallTypes.newRecord (.type "enumerate") (Builtin.SmallTypes.ownedTupleFields ++ [.ref s.heap.objs.size, rawInt 0, .none, .none]) = (do
        let a ← alloc { cls := .type "enumerate", data := .fields #[.none, .bool false, .ref s.heap.objs.size, rawInt 0, .none, .none] }
        pure (Value.ref a)) := rfl
    rw [e2]
    exact wpAny_bind (wpAny_bind (wpAny_alloc (wpAny_pure (wpAny_pure h2))))
  have bind1 : ∀ (m : Sem (Value × Option Value)), m = pure (v, none) → ∀ k : Value × Option Value → Sem PySem.Fin, wpAny (model prog w) A.in1 (k (v, none)) (fun fin s' => match fin with
        | Fin.done f => R (Except.ok f) s'
        | Fin.again c' => c'.quiet = true ∧ codeAny (model prog w) A c' R s') (fun e s' => R (Except.error e) s') s → wpAny (model prog w) A.in1 (m >>= k) (fun fin s' => match fin with
        | Fin.done f => R (Except.ok f) s'
        | Fin.again c' => c'.quiet = true ∧ codeAny (model prog w) A c' R s') (fun e s' => R (Except.error e) s') s := by
    rintro m rfl k h
    exact wpAny_bind (wpAny_pure h)
  have two : ∀ (c : Bool) (m1 m2 : Sem PySem.Fin) (Q1 : PySem.Fin → Shared → Prop) (E1 : Value → Shared → Prop), wpAny (model prog w) A.in1 m1 Q1 E1 s → wpAny (model prog w) A.in1 m2 Q1 E1 s → wpAny (model prog w) A.in1 (if c = true then m1 else m2) Q1 E1 s := by
    intro c m1 m2 Q1 E1 a b
    cases c
    · exact b
    · exact a
  refine two _ _ _ _ _ ?_ ?_
  · refine bind1 _ ?_ _ ?_
    · rfl
    · exact fin
  · refine bind1 _ ?_ _ ?_
    · rfl
    · exact fin

theorem call_enumB {prog : Program} {w : World} {A : Around} {E : Value → Shared → Prop} {s : Shared} {v : Value} {o : Obj} {H : Heap → Prop} {Q : Value → Shared → Prop} (B : Begins v o H) (h1 : H s.heap)
    (h : ∀ h' : Heap, IsEnum h' (s.heap.objs.size + 1) s.heap.objs.size 0 .none → h'.get? s.heap.objs.size = some o → h'.objs.size = s.heap.objs.size + 2 → (∀ b o, s.heap.get? b = some o → h'.get? b = some o) → Q (.ref (s.heap.objs.size + 1)) { s with heap := h' }) :
    wpAny (model prog w) A (call (.type "enumerate") [v]) Q E s := by
  have hz := Heap.size_push s.heap o
  refine callType_new F.called_enumerate (by decide) (F.typeCall_enumerate_1 v) (F.newCall_enumerate_1 v) (fun obj => F.args_object_init_2 obj v) F.entry_enumerate_new (meets_enumB B) ⟨h1, ?_⟩
  have he := Heap.get?_push_size (s.heap.push o) (o := { cls := Value.type "enumerate", data := Data.fields #[.none, .bool false, .ref s.heap.objs.size, rawInt 0, .none, .none] }) rfl
  show (_ ∧ Q (Value.ref (s.heap.push o).objs.size) _)
  rw [hz] at he ⊢
  refine ⟨⟨_, he, rfl⟩, h _ he (Heap.get?_push_of_some _ (Heap.get?_push_size s.heap B.free)) (by rw [Heap.size_push, hz]) fun b u q => Heap.get?_push_of_some _ (Heap.get?_push_of_some _ q)⟩

def iEnumA (K : PySem.W.Frag) (ta : TA) : TI := fun σ H R => ta σ H fun vs H1 => ∃ a xs, vs = [.ref a] ∧ ((SqL K H1 a xs ∧ R (Ite K a) H1) ∨ (SqT K H1 a xs ∧ R (IteT K a xs.length) H1))
theorem pi_enumA {X : Cx} {e : Expr} {ta : TA} {p pos tpos : Pos} {elts : List Expr} {kk : Nat} (hg : Gl X "enumerate") (hm : X.mg "enumerate" = none) (ha : PA X [e] ta) (hs : starEach [e] X.env = [(false, eval e X.env)]) :
    PI X (.Tuple elts kk tpos) (.Call (.Name "enumerate" p) [e] [] pos) (iEnumA X.K ta) := by
  refine ⟨fun pins s σ H R I h => ?_⟩
  refine Call_ (ld_blt I hg hm boot_enumerate (PyProof.Rows.callWith_type1 (thn (ha.run pos pins s σ H _ I h) fun us s1 ⟨vs, H1, I1, r1, a, xs, ex, q⟩ => ?_) hs rfl) (by decide) (by decide)) rfl
  subst ex
  obtain ⟨u, rfl, ru⟩ := vals1 r1
  cases ru
  have hfp : ∀ b, b ∈ [s1.heap.objs.size + 1, s1.heap.objs.size] → FpOk X pins H1 b := fun b hb => by
    have hle : s1.heap.objs.size ≤ b := by
      simp only [List.mem_cons, List.not_mem_nil, or_false] at hb
      rcases hb with rfl | rfl
      · exact Nat.le_add_right _ 1
      · exact Nat.le_refl _
    exact I1.fpOk hle (HOk.fresh I1.hok hle)
  rcases q with ⟨hq, q⟩ | ⟨hq, q⟩
  · obtain ⟨its, rv, p', hz⟩ := I1.list hq
    refine call_enumerate_list (PlainL.isList p') fun h' he hit hsz hk => ?_
    refine wpAny_pyIter_enum he ?_
    exact ⟨s1.heap.objs.size + 1, [s1.heap.objs.size + 1, s1.heap.objs.size], _, Ite X.K a, H1, rfl, I1.kept hk, turn_enum a (s1.heap.objs.size + 1) s1.heap.objs.size, ⟨⟨_, he⟩, hit, Nat.succ_ne_self _⟩, hfp, q⟩
  · obtain ⟨its, rv, ht, hz⟩ := I1.tuple hq
    refine call_enumB (begins_tuple a its.toArray) ht fun h' he hit hsz hk => ?_
    refine wpAny_pyIter_enum he ?_
    exact ⟨s1.heap.objs.size + 1, [s1.heap.objs.size + 1, s1.heap.objs.size], _, IteT X.K a xs.length, H1, rfl, I1.kept hk, turn_enumT a (s1.heap.objs.size + 1) s1.heap.objs.size xs.length, ⟨⟨_, he⟩, ⟨_, hit, rfl, rfl⟩, Nat.succ_ne_self _, Nat.zero_le _⟩, hfp, q⟩
theorem call_dict_copy {prog : Program} {w : World} {A : Around} {E : Value → Shared → Prop} {s : Shared} {src : Addr} {kvs : List (Key × Value)} {Q : Value → Shared → Prop} (dd : Heap.DictOf (mixKind prog w) s.heap src kvs) (hns : (src == sysModules) = false) (hz : kvs.length ≤ sizeLine)
    (h : ∀ h' : Heap, Heap.DictOf (mixKind prog w) h' s.heap.objs.size (merged [] kvs) → (∀ b o, s.heap.get? b = some o → h'.get? b = some o) → Q (.ref s.heap.objs.size) { s with heap := h' }) : wpAny (model prog w) A (call (.type "dict") [.ref src]) Q E s := by
  refine callType_codes F.kt_called_dict (F.kt_typeCall_dict_1 (.ref src)) F.entry_dict_init (kt_code_dict_new (.ref src) (Q₁ := fun obj s₁ => obj = .ref s.heap.objs.size ∧ s₁ = { s with heap := s.heap.push { cls := .type "dict", data := .dict #[] } }) ⟨rfl, rfl⟩) fun obj s₁ ⟨e1, e2⟩ => ?_
  subst e1 e2
  have k0 : ∀ b o, s.heap.get? b = some o → (s.heap.push { cls := .type "dict", data := .dict #[] }).get? b = some o := fun b o e => Heap.get?_push_of_some _ e
  have hnew : Heap.DictOf (mixKind prog w) (s.heap.push { cls := .type "dict", data := .dict #[] }) s.heap.objs.size [] := Heap.DictOf.new s.heap
  refine ⟨hnew.typeIs, F.args_dict_init_2 _ _, ?_⟩
  unfold Builtin.«dict.__init__» Builtin.Dict.selfAndRest
  refine wpAny_bind (wpAny_bind (wpAny_notOrdered_dict hnew.typeIs ?_))
  show wpAny _ _ (pure (s.heap.objs.size, [Value.ref src])) _ _ _
  refine wpAny_pure ?_
  show wpAny _ _ (Builtin.Dict.updateFrom "dict.__init__" s.heap.objs.size (.ref src) [] .none) _ _ _
  obtain ⟨o, es, ep, ho, hx, r1, r2, r3, r4⟩ := dd
  have dd' : Heap.DictOf (mixKind prog w) (s.heap.push { cls := .type "dict", data := .dict #[] }) src kvs := ⟨o, es, ep, k0 _ _ ho, hx, r1, r2, r3, r4⟩
  unfold Builtin.Dict.updateFrom
  refine wpAny_bind (wpAny_typeOf dd'.typeIs ?_)
  rw [if_neg (by decide)]
  unfold Builtin.Dict.merge
  have hdo : s.heap.objs.size ≠ src := Nat.ne_of_gt (Heap.lt_size ho)
  have rd : ∀ (A : Around) (E : Value → Shared → Prop) (Q : Bool → Shared → Prop) (s1 : Shared), s1.TypeIs (.ref src) "dict" → Q true s1 → wpAny (model prog w) A (Builtin.Dict.readDirectly (.ref src)) Q E s1 := by
    intro A E Q s1 hT hQ
    unfold Builtin.Dict.readDirectly
    refine wpAny_bind (wpAny_isInstance (b := true) hT rfl ?_)
    rw [if_neg (by decide)]
    refine wpAny_bind (wpAny_specialOf hT F.slot_dict_iter.lookup ?_)
    exact wpAny_pure hQ
  refine wpAny_bind (wpAny_bind (rd _ _ _ _ dd'.typeIs ?_))
  rw [if_pos rfl]
  show wpAny _ _ (do
    let a ← (pure src : Sem Addr)
    Builtin.Dict.mergeDict "dict.__init__" s.heap.objs.size a) _ _ _
  refine wpAny_bind (wpAny_pure (wpAny_mergeDict hdo hns hnew dd' (fun h' d1 d2 sb => ?_) (by simpa using hz)))
  show wpAny _ _ (do
    let _ ← (pure () : Sem Unit)
    ret .none) _ _ _
  refine wpAny_bind (wpAny_pure ?_)
  refine wpAny_pure ⟨rfl, h h' d1 fun b u q => ?_⟩
  have hb : b ≠ s.heap.objs.size := Nat.ne_of_lt (Heap.lt_size q)
  rw [sb.2 b hb]
  exact k0 b u q
end DL

set_option Elab.async false
set_option linter.all false
set_option maxRecDepth 100000
set_option maxHeartbeats 4000000
/-! the deep layer: the fragment and what it means -/
namespace DL
open PySem PySem.Spec PyProof.Rows L2

/-! ### operations on values -/
/-- what can be read of a value -/
def rd (g : G) : D → D
  | .ref n => match g[n]? with
    | some (.lst ds) => .lst ds
    | some (.dct ks vs) => .dct ks vs
    | some (.ins C ns vs) => .obj C ns vs
    | _ => .ref n
  | d => d

def kindD : D → Nat
  | .non => 0 | .bl _ => 1 | .int _ => 1 | .str _ => 2 | .tup _ => 3 | .lst _ => 4 | _ => 9
mutual
/-- == -/
def eqO : D → D → Option Bool
  | .non, .non => some true
  | .bl a, .bl b => some (a == b)
  | .bl a, .int j => some ((if a then 1 else 0) == j)
  | .int i, .bl b => some (i == (if b then 1 else 0))
  | .int i, .int j => some (i == j)
  | .str x, .str y => some (x == y)
  | .tup xs, .tup ys => eqOs xs ys
  | .lst xs, .lst ys => if xs.length = ys.length then eqOs xs ys else some false
  | x, y => if kindD x < 5 ∧ kindD y < 5 then some false else none
def eqOs : List D → List D → Option Bool
  | [], [] => some true
  | [], _ :: _ => some false
  | _ :: _, [] => some false
  | x :: xs, y :: ys => match eqO x y, eqOs xs ys with
    | some a, some b => some (a && b)
    | _, _ => none
end
mutual
def dep : D → Nat
  | .tup xs => deps xs + 1
  | .lst xs => deps xs + 1
  | _ => 0
def deps : List D → Nat
  | [] => 0
  | x :: xs => max (dep x) (deps xs)
end
def eqD (x y : D) : Option Bool := if min (dep x) (dep y) ≤ 60 then eqO x y else none

def truD : D → Option Bool
  | .non => some false
  | .bl b => some b
  | .int i => some (i != 0)
  | .str x => if x.length ≤ sizeLine then some ((x.length : Int) != 0) else none
  | .tup xs => some (!xs.isEmpty)
  | .lst xs => some (!xs.isEmpty)
  | _ => none

inductive Op2 where
  | add | sub | mul | fdiv | mod | pow
  deriving DecidableEq
def mulOk (i j : Int) : Prop := i.natAbs < 2 ^ 64 ∨ j.natAbs < 2 ^ 64 ∨ i.natAbs.log2 + j.natAbs.log2 < 1000000
instance (i j : Int) : Decidable (mulOk i j) := inferInstanceAs (Decidable (_ ∨ _ ∨ _))
def op2 : Op2 → D → D → Option D
  | .add, .int i, .int j => some (.int (i + j))
  | .add, .str x, .str y => if x.length + y.length ≤ sizeLine then some (.str (x ++ y)) else none
  | .add, .tup xs, .tup ys => if xs.length + ys.length ≤ sizeLine then some (.tup (xs ++ ys)) else none
  | .add, .lst xs, .lst ys => if xs.length + ys.length ≤ sizeLine then some (.lst (xs ++ ys)) else none
  | .sub, .int i, .int j => some (.int (i - j))
  | .mul, .int i, .int j => if mulOk i j then some (.int (i * j)) else none
  | .fdiv, .int i, .int j => if 0 < j ∧ j.natAbs.log2 < 9000 then some (.int (i / j)) else none
  | .mod, .int i, .int j => if 0 < j then some (.int (i % j)) else none
  | .pow, .int i, .int j => if 0 ≤ j ∧ j ≤ 1000000 ∧ i.natAbs < 2 ^ 64 then some (.int (i ^ j.toNat)) else none
  | _, _, _ => none

/-- op= -/
def aug2 : Op2 → D → D → Option D
  | .add, .int i, .int j => some (.int (i + j))
  | .sub, .int i, .int j => some (.int (i - j))
  | _, _, _ => none

inductive Cp where
  | eq | ne | lt | le | gt | ge | isin | notin
  deriving DecidableEq
/-- x in ys, item by item -/
def inOs (x : D) : List D → Option Bool
  | [] => some false
  | y :: ys => match eqD y x, inOs x ys with
    | some a, some b => some (a || b)
    | _, _ => none
mutual
def keyOf : D → Option TK
  | .int i => some (.a (.inl i))
  | .str x => some (.a (.inr x))
  | .tup l => (keysOf l).map .t
  | _ => none
def keysOf : List D → Option (List TK)
  | [] => some []
  | x :: xs => match keyOf x, keysOf xs with
    | some k, some ks => some (k :: ks)
    | _, _ => none
end
/-- is it a tuple -/
def sortD : D → Bool
  | .tup _ => true
  | _ => false
/-- ints and texts are the keys -/
def atomsB : List D → Bool
  | [] => true
  | q :: _ => !sortD q
/-- a key of the others' kind -/
def okK (ks : List D) : TK → Bool
  | .a _ => atomsB ks
  | .t l => decide (tdep (.t l) ≤ 8) && match ks with
    | [] => true
    | q :: _ => sortD q
def dlook : List D → List D → TK → Option D
  | k :: ks, v :: vs, key => if keyOf k = some key then some v else dlook ks vs key
  | _, _, _ => none
/-- one text in another -/
def strIn (x y : Str) : Bool := match x.cps.toList with
  | [c] => decide (c ∈ y.cps.toList)
  | _ => !(Builtin.Str.occurrences y x 0 y.length 1).isEmpty
def inD (x : D) : D → Option Bool
  | .tup ys => inOs x ys
  | .lst ys => inOs x ys
  | .dct ks vs => match keyOf x with
    | some k => if okK ks k = true then some (dlook ks vs k).isSome else none
    | none => none
  | .str y => match x with
    | .str x => some (strIn x y)
    | _ => none
  | _ => none
def cmpD : Cp → D → D → Option Bool
  | .eq, x, y => eqD x y
  | .ne, x, y => (eqD x y).map (!·)
  | .lt, .int i, .int j => some (decide (i < j))
  | .le, .int i, .int j => some (decide (i ≤ j))
  | .gt, .int i, .int j => some (decide (j < i))
  | .ge, .int i, .int j => some (decide (j ≤ i))
  | .isin, x, y => inD x y
  | .notin, x, y => (inD x y).map (!·)
  | _, _, _ => none

/-- dicts of flat values, known to be alike -/
def flatEq : D → D → Bool
  | .non, .non => true
  | .bl a, .bl b => a == b
  | .int a, .int b => decide (a = b)
  | .str a, .str b => decide (a = b)
  | _, _ => false
def eqDct : List D → List D → List D → List D → Bool
  | [], [], _, _ => true
  | k :: ks, v :: vs, ks', vs' => (match keyOf k with
    | some k => (match dlook ks' vs' k with
      | some v' => flatEq v v'
      | none => false)
    | none => false) && eqDct ks vs ks' vs'
  | _, _, _, _ => false
def deqD : D → D → Option Bool
  | .dct ks vs, .dct ks' vs' => if (atomsB ks && atomsB ks') = true ∧ ks.length = ks'.length ∧ eqDct ks vs ks' vs' = true then some true else none
  | _, _ => none
/-- x[i] -/
def ixD (kd : Str → Str → Option D) : D → D → Option D
  | .tup xs, .int i => atI xs i
  | .lst xs, .int i => atI xs i
  | .str x, .int i => if x.length ≤ sizeLine then (atI x.cps.toList i).map fun c => .str ⟨#[c]⟩ else none
  | .dct ks vs, y => match keyOf y with
    | some k => if okK ks k = true then dlook ks vs k else none
    | none => none
  | .fn n, .str x => kd n x
  | _, _ => none
def cutL (xs : List D) (lo hi : Option Int) : List D := (xs.drop (HT.sIx xs.length 0 lo)).take (HT.sIx xs.length xs.length hi - HT.sIx xs.length 0 lo)
def cutStr (x : Str) (lo hi : Option Int) : Str := ⟨((x.cps.toList.drop (HT.sIx x.length 0 lo)).take (HT.sIx x.length x.length hi - HT.sIx x.length 0 lo)).toArray⟩
/-- x[lo:hi] -/
def slD : D → Option Int → Option Int → Option D
  | .tup xs, lo, hi => some (.tup (cutL xs lo hi))
  | .lst xs, lo, hi => some (.lst (cutL xs lo hi))
  | .str x, lo, hi => if x.length ≤ sizeLine then some (.str (cutStr x lo hi)) else none
  | _, _, _ => none

inductive Ty where
  | bool | int | str | tuple | list | dict
  deriving DecidableEq
def isiB : D → Ty → Option Bool
  | .non, _ => some false
  | .bl _, .bool => some true | .bl _, .int => some true | .bl _, _ => some false
  | .int _, .int => some true | .int _, _ => some false
  | .str _, .str => some true | .str _, _ => some false
  | .tup _, .tuple => some true | .tup _, _ => some false
  | .lst _, .list => some true | .lst _, _ => some false
  | .dct ks _, .dict => if atomsB ks = true then some true else none | .dct ks _, _ => if atomsB ks = true then some false else none
  | _, _ => none
def isiAny (d : D) : List Ty → Option Bool
  | [] => some false
  | t :: ts => match isiB d t with
    | some true => some true
    | some false => isiAny d ts
    | none => none

/-- built-in functions -/
inductive Bi where
  | len | tuple | list (fz : Bool) | min2 | max2 | abs | all | any | sum | sortI (fz : Bool) | strI | dict (fz : Bool)
  deriving DecidableEq
/-- methods of built-in types -/
inductive Mt where
  | append | get | join | pop | split (fz : Bool) | upper | extend | clear | count
  deriving DecidableEq
def boolsOf : List D → Option (List Bool)
  | [] => some []
  | .bl b :: r => (boolsOf r).map (b :: ·)
  | _ => none
def intsOf : List D → Option (List Int)
  | [] => some []
  | .int b :: r => (intsOf r).map (b :: ·)
  | _ => none

/-- sorted ints -/
def insI (i : Int) : List Int → List Int
  | [] => [i]
  | j :: r => if i ≤ j then i :: j :: r else j :: insI i r
def sortI : List Int → List Int
  | [] => []
  | i :: r => insI i (sortI r)
def strsOf : List D → Option (List Str)
  | [] => some []
  | .str b :: r => (strsOf r).map (b :: ·)
  | _ => none

/-! ### the fragment -/
mutual
inductive E where
  | v (i : Nat) | non | bl (b : Bool) | int (i : Int) | str (x : Str) | gl (x : Str)
  | tup (es : Es) | lst (fz : Bool) (es : Es) | dct (fz : Bool) (ps : Ps)
  | bin (op : Op2) (a b : E) | neg (a : E) | not (a : E) | and (es : Es) | or (es : Es)
  | cmp (op : Cp) (a b : E) | cmp2 (op op' : Cp) (a b c : E) | isn (a : E) | notn (a : E) | ite (c a b : E)
  | ix (a b : E) | sl (a : E) (lo hi : Es) | fld (a : E) (f : Str)
  | call (f : Str) (es : Es) | callv (f : Nat) (es : Es) | mk (fz : Bool) (C : Str) (es : Es) | own (m : Str) (o : E) (es : Es)
  | bi (b : Bi) (es : Es) | mt (m : Mt) (o : E) (es : Es) | isi (a : E) (ts : List Ty) (many : Bool)
  | lc (fz : Bool) (own : List Nat) (elt : E) (t : Tg) (it : I) (ifs : Es)
  | kget (o : E) (es : Es) | bad | rev (a : E) | rep (fz : Bool) (a b : E) | deq (a b : E)
  | isc (a : E) (cs : List Str) (many : Bool) | slen (a : E) | dc (fz : Bool) (own : List Nat) (k v : E) (t : Tg) (it : I) (ifs : Es)
inductive Es where
  | nil | cons (e : E) (es : Es)
inductive Ps where
  | nil | cons (k v : E) (ps : Ps)
inductive Tg where
  | v (i : Nat) | tup (ts : Tgs) | ix (a b : E) | fld (a : E) (f : Str)
inductive Tgs where
  | nil | cons (t : Tg) (ts : Tgs)
inductive I where
  | e (a : E) | rng1 (a : E) | rng2 (a b : E) | enum (a : E) | zip (a b : E) | items (a : E) | vals (a : E)
end
mutual
inductive S where
  | ex (a : E) | ret (a : E) | retn | asg (t : Tg) (a : E) | par (is : List Nat) (es : Es) | augv (i : Nat) (op : Op2) (a : E) | augf (o : E) (f : Str) (op : Op2) (a : E)
  | iff (c : E) (a b : Ss) | forr (t : Tg) (it : I) (b : Ss) | whl (c : E) (b : Ss) | brk | cnt | pas
  | rse (C : Str) (es : Es) | frz (i : Nat) | bad | tri (b : Ss) (hs : Hs)
inductive Ss where
  | nil | cons (s : S) (ss : Ss)
inductive Hs where
  | nil | cons (C : Str) (i : Option Nat) (ss : Ss) (hs : Hs)
end

def Es.len : Es → Nat
  | .nil => 0
  | .cons _ ts => ts.len + 1
def Tgs.len : Tgs → Nat
  | .nil => 0
  | .cons _ ts => ts.len + 1
def itemsD : D → Option (List D)
  | .tup ds => some ds
  | .lst ds => some ds
  | _ => none

/-! ### what it means -/
structure Cf where
  ok : Str → Nat → Bool
  okm : Str → Nat → Bool
  glob : Str → Option D
  kd : Str → Str → Option D
  kt : Str → Option (List (Str × D))
  call : Str → List D → M D
  meth : Str → Str → Option Str
  init : Str → Option Str
  exk : Str → Option (List Str)
  isi : Str → Str → Option Bool
  isx : Str → Str → Option Bool
  exm : Str → Str → Option Bool
  fld : Str → Str → Bool
  wf : Nat

def alloc (o : O) : M D := fun g => .ok (.ref g.length) (g ++ [o])
def mkL (fz : Bool) (xs : List D) : M D := match fz with
  | true => pure (.lst xs)
  | false => alloc (.lst xs)
def mkD (fz : Bool) (ks vs : List D) : M D := match fz with
  | true => pure (.dct ks vs)
  | false => alloc (.dct ks vs)
/-- what may not raise -/
def noEx {α : Type} (m : M α) : M α := fun g => match m g with
  | .ok a g' => .ok a g'
  | _ => .bad
def optM {α : Type} : Option α → M α
  | some a => pure a
  | none => M.bad
def rdM (d : D) : M D := fun g => .ok (rd g d) g
def needM (c : Prop) [Decidable c] : M Unit := if c then pure () else M.bad

/-- a slot's value -/
def slot (ρ : List (Option D)) (i : Nat) : Option D := match ρ[i]? with
  | some o => o
  | none => none
theorem slot_some {ρ : List (Option D)} {i : Nat} {d : D} (h : slot ρ i = some d) : ρ[i]? = some (some d) := by
  unfold slot at h
  cases e : ρ[i]? with
  | none => rw [e] at h; cases h
  | some o => rw [e] at h; exact congrArg some h
/-- what is gone through -/
inductive It0 where
  | fix (ds : List D) | dyn (n : Nat)
def It0.at (g : G) : It0 → Nat → Option (Option D)
  | .fix ds, i => some ds[i]?
  | .dyn n, i => match g[n]? with
    | some (.lst ds) => some ds[i]?
    | _ => none
def It0.len (g : G) : It0 → Nat
  | .fix ds => ds.length
  | .dyn n => match g[n]? with
    | some (.lst ds) => ds.length
    | _ => 0
def signsD (x : Str) : List D := x.cps.toList.map fun c => .str ⟨#[c]⟩
def itOf (g : G) : D → Option It0
  | .tup ds => some (.fix ds)
  | .lst ds => some (.fix ds)
  | .str x => some (.fix (signsD x))
  | .dct ks _ => if atomsB ks = true then some (.fix ks) else none
  | .ref n => match g[n]? with
    | some (.lst _) => some (.dyn n)
    | _ => none
  | _ => none
def itM (d : D) : M It0 := fun g => match itOf g d with
  | some it => .ok it g
  | none => .bad
def rngD (a b : Int) : List D := (List.range (b - a).toNat).map fun i => .int (a + (i : Nat))
def enumD (ds : List D) : List D := (List.range ds.length).map fun i => .tup [.int (i : Nat), ds.getD i .non]
def zipD : List D → List D → List D
  | x :: xs, y :: ys => .tup [x, y] :: zipD xs ys
  | _, _ => []
/-- a loop's turns -/
def loopS (it : It0) (body : D → Env' → M (Fl × Env')) : Nat → Nat → Env' → M (Fl × Env')
  | 0, i, ρ => fun g => match it.at g i with
    | some none => .ok (.nx, ρ) g
    | _ => .bad
  | k + 1, i, ρ => fun g => match it.at g i with
    | some none => .ok (.nx, ρ) g
    | some (some d) => (body d ρ g).bind fun x => match x with
      | (.nx, ρ') => loopS it body k (i + 1) ρ'
      | (.ct, ρ') => loopS it body k (i + 1) ρ'
      | (.bk, ρ') => pure (.nx, ρ')
      | x => pure x
    | none => .bad
/-- a comprehension's: the new list at n -/
def addTo (n : Nat) (y : D) : M Unit := fun g => match g[n]? with
  | some (.lst xs) => if xs.length < sizeLine then .ok () (g.set n (.lst (xs ++ [y]))) else .bad
  | _ => .bad
def loopC (it : It0) (n : Nat) (body : D → M (Option D)) : Nat → Nat → M Unit
  | 0, i => fun g => match it.at g i with
    | some none => .ok () g
    | _ => .bad
  | k + 1, i => fun g => match it.at g i with
    | some none => .ok () g
    | some (some d) => (noEx (body d) g).bind fun x => match x with
      | none => loopC it n body k (i + 1)
      | some y => fun g => (addTo n y g).bind fun _ => loopC it n body k (i + 1)
    | none => .bad
/-- the slots of a comprehension's own names forgotten -/
def wipeE (ρ : Env') : List Nat → Env'
  | [] => ρ
  | v :: vs => (wipeE ρ vs).set v none

/-- a dict's pairs, one put in -/
def dset : List D → List D → TK → D → List D
  | q :: ks, v :: vs, k, d => (if keyOf q = some k then d else v) :: dset ks vs k d
  | _, _, _, _ => []
def dput (ks vs : List D) (k : TK) (v : D) : List D × List D := if (dlook ks vs k).isSome = true then (ks, dset ks vs k v) else (ks ++ [kD k], vs ++ [v])
def setItemM (x i d : D) : M Unit := fun g => match x with
  | .ref n => match g[n]? with
    | some (.lst xs) => match i with
      | .int k => match ixN xs.length k with
        | some j => .ok () (g.set n (.lst (xs.set j d)))
        | none => .bad
      | _ => .bad
    | some (.dct ks vs) => match keyOf i with
      | some k => if ks.length < sizeLine ∧ okK ks k = true then .ok () (g.set n (.dct (dput ks vs k d).1 (dput ks vs k d).2)) else .bad
      | none => .bad
    | _ => .bad
  | _ => .bad
/-- an instance's attributes, one put in -/
def fput : List Str → List D → Str → D → List Str × List D
  | n :: ns, v :: vs, f, d => if n = f then (n :: ns, d :: vs) else (n :: (fput ns vs f d).1, v :: (fput ns vs f d).2)
  | _, _, f, d => ([f], [d])
def setFldM (fld : Str → Str → Bool) (x : D) (f : Str) (d : D) : M Unit := fun g => match x with
  | .ref n => match g[n]? with
    | some (.ins C ns vs) => match fld C f with
      | true => if ns.length < 40 then .ok () (g.set n (.ins C (fput ns vs f d).1 (fput ns vs f d).2)) else .bad
      | false => .bad
    | _ => .bad
  | _ => .bad
def flook : List Str → List D → Str → Option D
  | n :: ns, v :: vs, f => if n = f then some v else flook ns vs f
  | _, _, _ => none
def fldM (fld : Str → Str → Bool) (x : D) (f : Str) : M D := fun g => match rd g x with
  | .obj C ns vs => match fld C f with
    | true => match flook ns vs f with
      | some d => .ok d g
      | none => .bad
    | false => .bad
  | _ => .bad
def newL : M Nat := fun g => .ok g.length (g ++ [.lst []])
def endL (fz : Bool) (n : Nat) : M D := fun g => match fz with
  | false => .ok (.ref n) g
  | true => match g[n]? with
    | some (.lst xs) => .ok (.lst xs) (g.set n .gone)
    | _ => .bad
def newDct : M Nat := fun g => .ok g.length (g ++ [.dct [] []])
/-- a thing let go: what it is from now on -/
def frzM (d : D) : M D := fun g => match d with
  | .ref n => match g[n]? with
    | some (.lst xs) => .ok (.lst xs) (g.set n .gone)
    | some (.dct ks vs) => .ok (.dct ks vs) (g.set n .gone)
    | some (.ins C ns vs) => .ok (.obj C ns vs) (g.set n .gone)
    | _ => .bad
  | _ => .bad

def lenM : List D → M D
  | [x] => fun g => match rd g x with
    | .tup xs => .ok (.int xs.length) g
    | .lst xs => .ok (.int xs.length) g
    | .str x => if x.length ≤ sizeLine then .ok (.int x.length) g else .bad
    | .dct ks _ => .ok (.int ks.length) g
    | _ => .bad
  | _ => M.bad
def tupleM : List D → M D
  | [x] => fun g => match rd g x with
    | .tup xs => .ok (.tup xs) g
    | .lst xs => .ok (.tup xs) g
    | _ => .bad
  | _ => M.bad
def listM (fz : Bool) : List D → M D
  | [x] => fun g => match rd g x with
    | .tup xs => mkL fz xs g
    | .lst xs => mkL fz xs g
    | .dct ks _ => if atomsB ks = true then mkL fz ks g else .bad
    | _ => .bad
  | _ => M.bad
def min2M : List D → M D
  | [.int i, .int j] => pure (.int (if j < i then j else i))
  | _ => M.bad
def max2M : List D → M D
  | [.int i, .int j] => pure (.int (if j > i then j else i))
  | _ => M.bad
def absM : List D → M D
  | [.int i] => pure (.int (if i < 0 then -i else i))
  | _ => M.bad
def strIM : List D → M D
  | [.int i] => if i.natAbs.log2 < 1920 then pure (.str (toString i)) else M.bad
  | _ => M.bad
/-- of a list of bools, of ints -/
def ofBools (f : List Bool → D) : List D → M D
  | [x] => fun g => match rd g x with
    | .lst xs => match boolsOf xs with
      | some bs => .ok (f bs) g
      | none => .bad
    | _ => .bad
  | _ => M.bad
def ofInts (f : List Int → M D) : List D → M D
  | [x] => fun g => match rd g x with
    | .lst xs => match intsOf xs with
      | some bs => f bs g
      | none => .bad
    | _ => .bad
  | _ => M.bad
def sortM (fz : Bool) (ns : List Int) : M D := if ns.length < 64 then mkL fz ((sortI ns).map D.int) else M.bad
/-- dict(pairs), dict(d) -/
def pairsOf : List D → Option (List (D × D))
  | [] => some []
  | .tup [k, v] :: r => (pairsOf r).map ((k, v) :: ·)
  | _ => none
def dputs : List D → List D → List (D × D) → Option (List D × List D)
  | ks, vs, [] => some (ks, vs)
  | ks, vs, (k, v) :: r => match keyOf k with
    | some (.a k) => dputs (dput ks vs (.a k) v).1 (dput ks vs (.a k) v).2 r
    | _ => none
/-- keys that are tuples, each once -/
def tkeys : List (D × D) → Option (List TK)
  | [] => some []
  | (k, _) :: r => match keyOf k, tkeys r with
    | some (.t l), some ks => if tdep (.t l) ≤ 8 then some (.t l :: ks) else none
    | _, _ => none
def dputsA (qs : List (D × D)) : Option (List D × List D) := match dputs [] [] qs with
  | some r => some r
  | none => match tkeys qs with
    | some ks => if ks.Nodup ∧ ks.length ≤ sizeLine then some (qs.map (·.1), qs.map (·.2)) else none
    | none => none
def dictM (fz : Bool) : List D → M D
  | [x] => fun g => match rd g x with
    | .lst ps => match pairsOf ps with
      | some qs => match dputsA qs with
        | some r => mkD fz r.1 r.2 g
        | none => .bad
      | none => .bad
    | .dct ks vs => if atomsB ks = true then mkD fz ks vs g else .bad
    | _ => .bad
  | _ => M.bad
def biM : Bi → List D → M D
  | .len => lenM
  | .tuple => tupleM
  | .list fz => listM fz
  | .min2 => min2M
  | .max2 => max2M
  | .abs => absM
  | .all => ofBools fun bs => .bl (bs.all id)
  | .any => ofBools fun bs => .bl (bs.any id)
  | .sum => ofInts fun ns => pure (.int ns.sum)
  | .sortI fz => ofInts (sortM fz)
  | .strI => strIM
  | .dict fz => dictM fz

/-- .get of a written dict -/
def ktM (l : List (Str × D)) : List D → M D
  | [.str z] => pure ((l.lookup z).getD .non)
  | _ => M.bad
/-- is it of the method's type -/
def mtOk : Mt → D → Bool
  | .append, .lst _ => true
  | .pop, .lst _ => true
  | .get, .dct _ _ => true
  | .join, .str _ => true
  | .split _, .str _ => true
  | .upper, .str _ => true
  | .extend, .lst _ => true
  | .clear, .lst _ => true
  | .count, .lst _ => true
  | _, _ => false
def appendM (x : D) : List D → M D
  | [y] => fun g => match x with
    | .ref n => match g[n]? with
      | some (.lst xs) => if xs.length < sizeLine then .ok .non (g.set n (.lst (xs ++ [y]))) else .bad
      | _ => .bad
    | _ => .bad
  | _ => M.bad
def popM (x : D) : List D → M D
  | [] => fun g => match x with
    | .ref n => match g[n]? with
      | some (.lst xs) => match xs[xs.length - 1]? with
        | some y => .ok y (g.set n (.lst xs.dropLast))
        | none => .bad
      | _ => .bad
    | _ => .bad
  | _ => M.bad
def getM (x : D) : List D → M D
  | [k] => fun g => match rd g x with
    | .dct ks vs => match keyOf k with
      | some k => if okK ks k = true then .ok ((dlook ks vs k).getD .non) g else .bad
      | none => .bad
    | _ => .bad
  | [k, y] => fun g => match rd g x with
    | .dct ks vs => match keyOf k with
      | some k => if okK ks k = true then .ok ((dlook ks vs k).getD y) g else .bad
      | none => .bad
    | _ => .bad
  | _ => M.bad
def joinM (x : D) : List D → M D
  | [y] => fun g => match x with
    | .str a => match rd g y with
      | .lst xs => match strsOf xs with
        | some ys => if (ys.map (·.length)).sum + ys.length * a.length ≤ 16777216 then .ok (.str (Txt.join a ys)) g else .bad
        | none => .bad
      | _ => .bad
    | _ => .bad
  | _ => M.bad
def splitM (fz : Bool) (x : D) : List D → M D
  | [.str b] => match x with
    | .str a => if (b.length == 0) = false ∧ a.length + 2 ≤ sizeLine then mkL fz ((Txt.split a b).map .str) else M.bad
    | _ => M.bad
  | _ => M.bad
def upperM (x : D) : List D → M D
  | [] => match x with
    | .str a => if a.length ≤ 5592405 then pure (.str (Txt.upper a)) else M.bad
    | _ => M.bad
  | _ => M.bad
def extendM (x : D) : List D → M D
  | [.ref m] => fun g => match x with
    | .ref n => match g[n]? with
      | some (.lst xs) => match g[m]? with
        | some (.lst ys) => if xs.length + ys.length ≤ sizeLine then .ok .non (g.set n (.lst (xs ++ ys))) else .bad
        | _ => .bad
      | _ => .bad
    | _ => .bad
  | _ => M.bad
def clearM (x : D) : List D → M D
  | [] => fun g => match x with
    | .ref n => match g[n]? with
      | some (.lst _) => .ok .non (g.set n (.lst []))
      | _ => .bad
    | _ => .bad
  | _ => M.bad
def repM (fz : Bool) (x y : D) : M D := fun g => match x with
  | .ref n => match g[n]? with
    | some (.lst xs) => match y with
      | .int k => if -(2 ^ 63) ≤ k ∧ k < 2 ^ 63 ∧ xs.length * k.toNat ≤ sizeLine then mkL fz (List.replicate k.toNat xs).flatten g else .bad
      | _ => .bad
    | _ => .bad
  | _ => .bad
def revM : D → M D
  | .tup xs => pure (.tup xs.reverse)
  | _ => M.bad
/-- how often a truth stands there -/
def countM (x : D) : List D → M D
  | [.bl b] => fun g => match rd g x with
    | .lst xs => match boolsOf xs with
      | some bs => .ok (.int (bs.filter (· == b)).length) g
      | none => .bad
    | _ => .bad
  | _ => M.bad
def mtM : Mt → D → List D → M D
  | .append => appendM
  | .pop => popM
  | .get => getM
  | .join => joinM
  | .split fz => splitM fz
  | .upper => upperM
  | .extend => extendM
  | .clear => clearM
  | .count => countM
/-- a dict's pairs, from the left -/
def dmerge : List D → List D → List (D × D) → Option (List D × List D)
  | ks, vs, [] => some (ks, vs)
  | ks, vs, (k, v) :: r => match keyOf k with
    | some (.a k) => dmerge (dput ks vs (.a k) v).1 (dput ks vs (.a k) v).2 r
    | _ => none
def setDctM (n : Nat) (fz : Bool) (ps : List (D × D)) : M D := fun g => match g[n]? with
  | some (.dct [] []) => match dmerge [] [] ps with
    | some r => match fz with
      | true => .ok (.dct r.1 r.2) (g.set n .gone)
      | false => .ok (.ref n) (g.set n (.dct r.1 r.2))
    | none => .bad
  | _ => .bad

/-- a new instance -/
def newI (C : Str) : M Nat := fun g => .ok g.length (g ++ [.ins C [] []])
def endO (fz : Bool) (n : Nat) : M D := fun g => match g[n]? with
  | some (.ins C ns vs) => match fz with
    | true => .ok (.obj C ns vs) (g.set n .gone)
    | false => .ok (.ref n) g
  | _ => .bad
/-- an instance's class, its fields' names -/
def clsO (g : G) : D → Option (Str × List Str)
  | .obj C ns _ => some (C, ns)
  | .ref n => match g[n]? with
    | some (.ins C ns _) => some (C, ns)
    | _ => none
  | _ => none
def isAny (isi : Str → Str → Option Bool) (C : Str) : List Str → Option Bool
  | [] => some false
  | c :: cs => match isi C c with
    | some true => some true
    | some false => isAny isi C cs
    | none => none
def iscB (isi isx : Str → Str → Option Bool) (cs : List Str) (g : G) : D → Option Bool
  | .exc C _ _ => isAny isx C cs
  | d => match clsO g d with
    | some (C, _) => isAny isi C cs
    | none => none
def iscM (isi isx : Str → Str → Option Bool) (cs : List Str) (x : D) : M D := fun g => match iscB isi isx cs g x with
  | some b => .ok (.bl b) g
  | none => .bad
/-- ints, texts -/
def atomKs : List D → Option (List Key)
  | [] => some []
  | d :: ds => match keyOf d, atomKs ds with
    | some (.a k), some ks => some (k :: ks)
    | _, _ => none
/-- each once -/
def hasK (acc : List Key) (k : Key) : Bool := acc.any fun x => decide (x = k)
def seenK (acc : List Key) : List Key → List Key
  | [] => acc
  | k :: ks => if hasK acc k = true then seenK acc ks else seenK (acc ++ [k]) ks
/-- len(set(t)) -/
def slenM (x : D) : M D := fun g => match x with
  | .tup xs => match atomKs xs with
    | some ks => if ks.length < 64 then .ok (.int (seenK [] ks).length) g else .bad
    | none => .bad
  | _ => .bad
mutual
def evE (cf : Cf) : E → Env' → M D
  | .v i, ρ => optM (slot ρ i)
  | .non, _ => pure .non
  | .bl b, _ => pure (.bl b)
  | .int i, _ => pure (.int i)
  | .str x, _ => pure (.str x)
  | .gl x, _ => optM (cf.glob x)
  | .tup es, ρ => do
    let ds ← evEs cf es ρ
    needM (ds.length ≤ sizeLine)
    pure (.tup ds)
  | .lst fz es, ρ => do
    let ds ← evEs cf es ρ
    needM (ds.length ≤ sizeLine)
    mkL fz ds
  | .dct fz ps, ρ => do
    let n ← newDct
    let ps ← evPs cf ps ρ
    needM (ps.length ≤ 15)
    setDctM n fz ps
  | .bin op a b, ρ => do
    let x ← evE cf a ρ
    let y ← evE cf b ρ
    let x ← rdM x
    let y ← rdM y
    optM (op2 op x y)
  | .neg a, ρ => do
    let x ← evE cf a ρ
    match x with
    | .int i => pure (.int (-i))
    | _ => M.bad
  | .not a, ρ => do
    let x ← evE cf a ρ
    let x ← rdM x
    let b ← optM (truD x)
    pure (.bl (!b))
  | .and es, ρ => evAnd cf es ρ
  | .or es, ρ => evOr cf es ρ
  | .cmp op a b, ρ => do
    let x ← evE cf a ρ
    let y ← evE cf b ρ
    let x ← rdM x
    let y ← rdM y
    let b ← optM (cmpD op x y)
    pure (.bl b)
  | .cmp2 op op' a b c, ρ => do
    let x ← evE cf a ρ
    let y ← evE cf b ρ
    let x' ← rdM x
    let y' ← rdM y
    let k ← optM (cmpD op x' y')
    if k then do
      let z ← evE cf c ρ
      let y' ← rdM y
      let z' ← rdM z
      let k ← optM (cmpD op' y' z')
      pure (.bl k)
    else pure (.bl false)
  | .isn a, ρ => do
    let x ← evE cf a ρ
    match x with
    | .non => pure (.bl true)
    | _ => pure (.bl false)
  | .notn a, ρ => do
    let x ← evE cf a ρ
    match x with
    | .non => pure (.bl false)
    | _ => pure (.bl true)
  | .ite c a b, ρ => do
    let x ← evE cf c ρ
    let x ← rdM x
    let k ← optM (truD x)
    if k then evE cf a ρ else evE cf b ρ
  | .ix a b, ρ => do
    let x ← evE cf a ρ
    let y ← evE cf b ρ
    let x ← rdM x
    let y ← rdM y
    optM (ixD cf.kd x y)
  | .sl a lo hi, ρ => do
    let x ← evE cf a ρ
    let l ← evPart cf lo ρ
    let h ← evPart cf hi ρ
    let x ← rdM x
    optM (slD x l h)
  | .fld a f, ρ => do
    let x ← evE cf a ρ
    fldM cf.fld x f
  | .call f es, ρ => do
    let ds ← evEs cf es ρ
    cf.call f ds
  | .callv i es, ρ => do
    let f ← optM (slot ρ i)
    match f with
    | .fn x => do
      needM (cf.ok x es.len = true)
      let ds ← evEs cf es ρ
      cf.call x ds
    | _ => M.bad
  | .mk fz C es, ρ => do
    let ds ← evEs cf es ρ
    match cf.init C with
    | some key => do
      needM (cf.okm key (ds.length + 1) = true)
      let n ← newI C
      let r ← cf.call key (.ref n :: ds)
      match r with
      | .non => endO fz n
      | _ => M.bad
    | none => M.bad
  | .own m o es, ρ => do
    let x ← evE cf o ρ
    (fun g => match clsO g x with
      | some (C, ns) => match cf.meth C m with
        | some key => (do
          needM ((!ns.contains m && cf.okm key (es.len + 1)) = true)
          let ds ← evEs cf es ρ
          cf.call key (x :: ds) : M D) g
        | none => .bad
      | none => .bad)
  | .isc a cs _, ρ => do
    let x ← evE cf a ρ
    iscM cf.isi cf.isx cs x
  | .slen a, ρ => do
    let x ← evE cf a ρ
    slenM x
  | .dc fz own k v t it ifs, ρ => M.bad
  | .kget o es, ρ => do
    let x ← evE cf o ρ
    match x with
    | .fn m => (match cf.kt m with
      | some l => do
        let ds ← evEs cf es ρ
        ktM l ds
      | none => M.bad)
    | _ => M.bad
  | .bad, _ => M.bad
  | .rev a, ρ => do
    let x ← evE cf a ρ
    revM x
  | .deq a b, ρ => do
    let x ← evE cf a ρ
    let y ← evE cf b ρ
    let x ← rdM x
    let y ← rdM y
    let b ← optM (deqD x y)
    pure (.bl b)
  | .rep fz a b, ρ => do
    let x ← evE cf a ρ
    let y ← evE cf b ρ
    repM fz x y
  | .bi b es, ρ => do
    let ds ← evEs cf es ρ
    biM b ds
  | .mt m o es, ρ => do
    let x ← evE cf o ρ
    let x' ← rdM x
    needM (mtOk m x' = true)
    let ds ← evEs cf es ρ
    mtM m x ds
  | .isi a ts _, ρ => do
    let x ← evE cf a ρ
    let x ← rdM x
    let b ← optM (isiAny x ts)
    pure (.bl b)
  | .lc fz own elt t it ifs, ρ => do
    let i ← evI cf it ρ
    let n ← newL
    (fun g => loopC i n (fun d => do
      let ρ1 ← asgT cf t d (wipeE ρ own)
      let k ← evIfs cf ifs ρ1
      if k then do
        let y ← evE cf elt ρ1
        pure (some y)
      else pure none) (i.len g) 0 g)
    endL fz n
def evEs (cf : Cf) : Es → Env' → M (List D)
  | .nil, _ => pure []
  | .cons e es, ρ => do
    let x ← evE cf e ρ
    let xs ← evEs cf es ρ
    pure (x :: xs)
def evPs (cf : Cf) : Ps → Env' → M (List (D × D))
  | .nil, _ => pure []
  | .cons k v r, ρ => do
    let x ← evE cf k ρ
    let y ← evE cf v ρ
    let ps ← evPs cf r ρ
    pure ((x, y) :: ps)
def evPart (cf : Cf) : Es → Env' → M (Option Int)
  | .nil, _ => pure none
  | .cons e .nil, ρ => do
    let x ← evE cf e ρ
    match x with
    | .int i => pure (some i)
    | _ => M.bad
  | _, _ => M.bad
def evAnd (cf : Cf) : Es → Env' → M D
  | .nil, _ => M.bad
  | .cons e .nil, ρ => evE cf e ρ
  | .cons e es, ρ => do
    let x ← evE cf e ρ
    let y ← rdM x
    let b ← optM (truD y)
    if b then evAnd cf es ρ else pure x
def evOr (cf : Cf) : Es → Env' → M D
  | .nil, _ => M.bad
  | .cons e .nil, ρ => evE cf e ρ
  | .cons e es, ρ => do
    let x ← evE cf e ρ
    let y ← rdM x
    let b ← optM (truD y)
    if b then pure x else evOr cf es ρ
def evIfs (cf : Cf) : Es → Env' → M Bool
  | .nil, _ => pure true
  | .cons e es, ρ => do
    let x ← evE cf e ρ
    let x ← rdM x
    let b ← optM (truD x)
    if b then evIfs cf es ρ else pure false
def asgT (cf : Cf) : Tg → D → Env' → M Env'
  | .v i, d, ρ => pure (ρ.set i (some d))
  | .tup ts, d, ρ => do
    let x ← rdM d
    let ds ← optM (itemsD x)
    needM (ds.length = ts.len)
    asgTs cf ts ds ρ
  | .ix a b, d, ρ => do
    let x ← evE cf a ρ
    let y ← evE cf b ρ
    setItemM x y d
    pure ρ
  | .fld a f, d, ρ => do
    let x ← evE cf a ρ
    setFldM cf.fld x f d
    pure ρ
def asgTs (cf : Cf) : Tgs → List D → Env' → M Env'
  | .nil, [], ρ => pure ρ
  | .cons t ts, d :: ds, ρ => do
    let ρ1 ← asgT cf t d ρ
    asgTs cf ts ds ρ1
  | _, _, _ => M.bad
def evI (cf : Cf) : I → Env' → M It0
  | .e a, ρ => do
    let x ← evE cf a ρ
    itM x
  | .rng1 a, ρ => do
    let x ← evE cf a ρ
    match x with
    | .int j => do
      needM (-(2 ^ 62) ≤ j ∧ j < 2 ^ 62)
      pure (.fix (rngD 0 j))
    | _ => M.bad
  | .rng2 a b, ρ => do
    let x ← evE cf a ρ
    let y ← evE cf b ρ
    match x, y with
    | .int i, .int j => do
      needM (-(2 ^ 62) ≤ i ∧ i < 2 ^ 62 ∧ -(2 ^ 62) ≤ j ∧ j < 2 ^ 62)
      pure (.fix (rngD i j))
    | _, _ => M.bad
  | .enum a, ρ => do
    let x ← evE cf a ρ
    match x with
    | .lst ds => pure (.fix (enumD ds))
    | .tup ds => pure (.fix (enumD ds))
    | _ => M.bad
  | .zip a b, ρ => do
    let x ← evE cf a ρ
    let y ← evE cf b ρ
    match x, y with
    | .lst xs, .lst ys => pure (.fix (zipD xs ys))
    | .tup xs, .tup ys => pure (.fix (zipD xs ys))
    | _, _ => M.bad
  | .items a, ρ => do
    let x ← evE cf a ρ
    match x with
    | .dct ks vs => if atomsB ks = true then pure (.fix (zipD ks vs)) else M.bad
    | _ => M.bad
  | .vals a, ρ => do
    let x ← evE cf a ρ
    match x with
    | .dct ks vs => if atomsB ks = true then pure (.fix vs) else M.bad
    | _ => M.bad
end
/-- a test -/
def evTM (F : Env' → M D) (ρ : Env') : M Bool := do
  let x ← F ρ
  let x ← rdM x
  optM (truD x)
def evT (cf : Cf) (e : E) : Env' → M Bool := evTM (evE cf e)
/-- an expression's exception goes on -/
def liftS {α : Type} (ρ : Env') (m : M α) (k : α → M (Fl × Env')) : M (Fl × Env') := fun g => match m g with
  | .ok a g' => k a g'
  | .ex e g' => .ok (.rs e, ρ) g'
  | .bad => .bad
/-- a statement, then the rest -/
def seqS (r : R (Fl × Env')) (k : Env' → M (Fl × Env')) : R (Fl × Env') := r.bind fun x => match x with
  | (.nx, ρ) => k ρ
  | x => pure x
def whileS (c : Env' → M Bool) (body : Env' → M (Fl × Env')) : Nat → Env' → M (Fl × Env')
  | 0, _ => M.bad
  | k + 1, ρ => liftS ρ (c ρ) fun b => if b then (fun g => (body ρ g).bind fun x => match x with
      | (.nx, ρ') => whileS c body k ρ'
      | (.ct, ρ') => whileS c body k ρ'
      | (.bk, ρ') => pure (.nx, ρ')
      | x => pure x)
    else pure (.nx, ρ)
/-- what raises nothing -/
def noRs (m : M (Fl × Env')) : M (Fl × Env') := fun g => match m g with
  | .ok (.rs _, _) _ => .bad
  | r => r
def parSet : List Nat → List D → Env' → Option Env'
  | [], [], ρ => some ρ
  | i :: is, d :: ds, ρ => parSet is ds (ρ.set i (some d))
  | _, _, _ => none
mutual
def evS (cf : Cf) : S → Env' → M (Fl × Env')
  | .ex a, ρ => liftS ρ (evE cf a ρ) fun _ => pure (.nx, ρ)
  | .ret a, ρ => liftS ρ (evE cf a ρ) fun d => pure (.rt d, ρ)
  | .retn, ρ => pure (.rt .non, ρ)
  | .asg t a, ρ => liftS ρ (evE cf a ρ) fun d => do
    let ρ' ← noEx (asgT cf t d ρ)
    pure (.nx, ρ')
  | .par is es, ρ => liftS ρ (evEs cf es ρ) fun ds => match parSet is ds ρ with
    | some ρ' => pure (.nx, ρ')
    | none => M.bad
  | .augv i op a, ρ => liftS ρ (do
      let x ← optM (slot ρ i)
      let y ← evE cf a ρ
      let x ← rdM x
      let y ← rdM y
      optM (aug2 op x y)) fun z => pure (.nx, ρ.set i (some z))
  | .augf o f op a, ρ => M.bad
  | .iff c a b, ρ => liftS ρ (evT cf c ρ) fun k => if k then evSs cf a ρ else evSs cf b ρ
  | .forr t it b, ρ => liftS ρ (evI cf it ρ) fun i => fun g => loopS i (fun d ρ => do
    let ρ1 ← noEx (asgT cf t d ρ)
    evSs cf b ρ1) (i.len g) 0 ρ g
  | .whl c b, ρ => whileS (evT cf c) (evSs cf b) cf.wf ρ
  | .brk, ρ => pure (.bk, ρ)
  | .cnt, ρ => pure (.ct, ρ)
  | .pas, ρ => pure (.nx, ρ)
  | .rse C es, ρ => liftS ρ (evEs cf es ρ) fun ds => match cf.exk C with
    | some [] => if ds.length ≤ 1000 ∧ ds ≠ [] then pure (.rs ⟨C, [], []⟩, ρ) else M.bad
    | some fs => if ds.length = fs.length then pure (.rs ⟨C, fs.reverse, ds.reverse⟩, ρ) else M.bad
    | none => M.bad
  | .tri b hs, ρ => fun g => (evSs cf b ρ g).bind fun x => match x with
    | (.rs e, ρ') => evHs cf hs e ρ'
    | x => pure x
  | .bad, ρ => M.bad
  | .frz i, ρ => liftS ρ (do
      let d ← optM (slot ρ i)
      frzM d) fun d' => pure (.nx, ρ.set i (some d'))
def evSs (cf : Cf) : Ss → Env' → M (Fl × Env')
  | .nil, ρ => pure (.nx, ρ)
  | .cons s ss, ρ => fun g => seqS (evS cf s ρ g) fun ρ' => evSs cf ss ρ'
def evHs (cf : Cf) : Hs → Exn → Env' → M (Fl × Env')
  | .nil, e, ρ => pure (.rs e, ρ)
  | .cons C i ss hs, e, ρ => match cf.exm e.cls C with
    | some true => match i with
      | none => noRs (evSs cf ss ρ)
      | some i => fun g => (noRs (evSs cf ss (ρ.set i (some (.exc e.cls e.ns e.vs)))) g).bind fun x => pure (x.1, x.2.set i none)
    | some false => evHs cf hs e ρ
    | none => M.bad
end
end DL

set_option Elab.async false
set_option linter.all false
set_option maxRecDepth 100000
set_option maxHeartbeats 4000000
/-! the deep layer: what values say; == -/
namespace DL
open PySem PySem.Spec PyProof.Rows L2

section
variable [Wd] {K : PySem.W.Frag} {mu : List Addr} {g : G} {H : Hp} {v : V} {d : D}
theorem RV.int_inv {own : Addr → Prop} {i : Int} (h : RV K own mu H v (.int i)) : v = .int i := by cases h; rfl
theorem RV.bl_inv {own : Addr → Prop} {i : Bool} (h : RV K own mu H v (.bl i)) : v = .bl i := by cases h; rfl
theorem RV.str_inv {own : Addr → Prop} {i : Str} (h : RV K own mu H v (.str i)) : v = .str i := by cases h; rfl
theorem RV.non_inv {own : Addr → Prop} (h : RV K own mu H v .non) : v = .non := by cases h; rfl
theorem RV.tup_inv {own : Addr → Prop} {ds : List D} (h : RV K own mu H v (.tup ds)) : ∃ a vs, v = .ref a ∧ TupAt K own H a vs ∧ RVs K own mu H vs ds := by
  cases h with
  | tup h r => exact ⟨_, _, rfl, h, r⟩
theorem RV.non_iff {own : Addr → Prop} (h : RV K own mu H v d) : v = .non ↔ d = .non := by
  cases h <;> simp
theorem RVs.length {own : Addr → Prop} : ∀ {ds : List D} {vs : List V}, RVs K own mu H vs ds → vs.length = ds.length
  | _, _, .nil => rfl
  | _, _, .cons _ r => by simp [RVs.length r]
theorem RVs.get {own : Addr → Prop} : ∀ {ds : List D} {vs : List V} {i : Nat} {d : D}, RVs K own mu H vs ds → ds[i]? = some d → ∃ v, vs[i]? = some v ∧ RV K own mu H v d
  | _, _, 0, _, .cons h _, e => by simp at e; subst e; exact ⟨_, rfl, h⟩
  | _, _, i + 1, _, .cons _ r, e => by simpa using RVs.get (i := i) r (by simpa using e)
theorem RVs.get' {own : Addr → Prop} : ∀ {ds : List D} {vs : List V} {i : Nat} {v : V}, RVs K own mu H vs ds → vs[i]? = some v → ∃ d, ds[i]? = some d ∧ RV K own mu H v d
  | _, _, 0, _, .cons h _, e => by simp at e; subst e; exact ⟨_, rfl, h⟩
  | _, _, i + 1, _, .cons _ r, e => by simpa using RVs.get' (i := i) r (by simpa using e)
theorem RVs.append {own : Addr → Prop} : ∀ {ds ds' : List D} {vs vs' : List V}, RVs K own mu H vs ds → RVs K own mu H vs' ds' → RVs K own mu H (vs ++ vs') (ds ++ ds')
  | _, _, _, _, .nil, q => q
  | _, _, _, _, .cons h r, q => .cons h (RVs.append r q)
theorem RVs.set {own : Addr → Prop} {v : V} {d : D} (hv : RV K own mu H v d) : ∀ {ds : List D} {vs : List V} (i : Nat), RVs K own mu H vs ds → RVs K own mu H (vs.set i v) (ds.set i d)
  | _, _, _, .nil => .nil
  | _, _, 0, .cons _ r => .cons hv r
  | _, _, i + 1, .cons h r => .cons h (RVs.set hv i r)
theorem RVs.drop {own : Addr → Prop} : ∀ {ds : List D} {vs : List V} (n : Nat), RVs K own mu H vs ds → RVs K own mu H (vs.drop n) (ds.drop n)
  | _, _, 0, h => h
  | _, _, _ + 1, .nil => .nil
  | _, _, n + 1, .cons _ r => RVs.drop n r
theorem RVs.take {own : Addr → Prop} : ∀ {ds : List D} {vs : List V} (n : Nat), RVs K own mu H vs ds → RVs K own mu H (vs.take n) (ds.take n)
  | _, _, 0, _ => .nil
  | _, _, _ + 1, .nil => .nil
  | _, _, n + 1, .cons h r => .cons h (RVs.take n r)
theorem RVs.isEmpty {own : Addr → Prop} {ds : List D} {vs : List V} (h : RVs K own mu H vs ds) : vs.isEmpty = ds.isEmpty := by
  cases h <;> rfl
theorem RVs.nil_iff {own : Addr → Prop} {ds : List D} {vs : List V} (h : RVs K own mu H vs ds) : vs = [] ↔ ds = [] := by
  cases h <;> simp
theorem RVs.ints {own : Addr → Prop} : ∀ {ds : List D} {vs : List V} {ns : List Int}, RVs K own mu H vs ds → intsOf ds = some ns → vs = ns.map V.int
  | _, _, _, .nil, e => by simp [intsOf] at e; subst e; rfl
  | d :: ds, _, ns, .cons h r, e => by
    cases d <;> simp [intsOf] at e
    obtain ⟨ms, e1, rfl⟩ := e
    rw [h.int_inv, RVs.ints r e1]; rfl
theorem RVs.bools {own : Addr → Prop} : ∀ {ds : List D} {vs : List V} {ns : List Bool}, RVs K own mu H vs ds → boolsOf ds = some ns → vs = ns.map V.bl
  | _, _, _, .nil, e => by simp [boolsOf] at e; subst e; rfl
  | d :: ds, _, ns, .cons h r, e => by
    cases d <;> simp [boolsOf] at e
    obtain ⟨ms, e1, rfl⟩ := e
    rw [h.bl_inv, RVs.bools r e1]; rfl

/-- what stands behind rd -/
theorem rd_lst (S : Sim K mu g H) (h : RV K (Own mu g) mu H v d) {ds : List D} (e : rd g d = .lst ds) : ∃ a vs, v = .ref a ∧ SqL K H a vs ∧ RVs K (Own mu g) mu H vs ds := by
  cases h with
  | lst h r => simp only [rd] at e; cases e; exact ⟨_, _, rfl, h.seq, r⟩
  | @ref n a hm =>
    simp only [rd] at e
    cases hg : g[n]? with
    | none => rw [hg] at e; cases e
    | some o =>
      rw [hg] at e
      cases o with
      | lst xs =>
        cases e
        obtain ⟨vs, q, r⟩ := S.at_ n _ a hg hm
        exact ⟨a, vs, rfl, SqL.of q, r⟩
      | _ => cases e
  | _ => simp only [rd] at e <;> cases e
theorem rd_tup (h : RV K (Own mu g) mu H v d) {ds : List D} (e : rd g d = .tup ds) : ∃ a vs, v = .ref a ∧ SqT K H a vs ∧ RVs K (Own mu g) mu H vs ds := by
  cases h with
  | tup h r => simp only [rd] at e; cases e; exact ⟨_, _, rfl, h.seq, r⟩
  | @ref n a hm =>
    simp only [rd] at e
    cases hg : g[n]? with
    | none => rw [hg] at e; cases e
    | some o => rw [hg] at e; cases o <;> cases e
  | _ => simp only [rd] at e <;> cases e
theorem rd_dct (S : Sim K mu g H) (h : RV K (Own mu g) mu H v d) {ks ds : List D} (e : rd g d = .dct ks ds) : ∃ a u kv vv, v = .ref a ∧ Rd H a u ∧ DctC a u kv vv ks ∧ RVs K (Own mu g) mu H kv ks ∧ RVs K (Own mu g) mu H vv ds := by
  cases h with
  | dct h1 h2 h3 r r' => simp only [rd] at e; cases e; exact ⟨_, _, _, _, rfl, .inr ⟨_, h2⟩, h3, r, r'⟩
  | @ref n a hm =>
    simp only [rd] at e
    cases hg : g[n]? with
    | none => rw [hg] at e; cases e
    | some o =>
      rw [hg] at e
      cases o with
      | dct xs ys =>
        cases e
        obtain ⟨u, kv, vv, q, c, r, r'⟩ := S.at_ n _ a hg hm
        exact ⟨a, u, kv, vv, rfl, .inl q, c, r, r'⟩
      | _ => cases e
  | _ => simp only [rd] at e <;> cases e
/-- keys that are ints and texts -/
theorem DctC.atoms {a : Addr} {u : HO} {kv vv : List V} {ks : List D} (c : DctC a u kv vv ks) (h : atomsB ks = true) : ∃ kvs : List (Key × V), u = .dK kvs ∧ kv = kvs.map (fun p => kV p.1) ∧ vv = kvs.map (·.2) := by
  cases c with
  | k kvs => exact ⟨kvs, rfl, rfl, rfl⟩
  | t xs vv hn hv hx =>
    cases xs with
    | nil => exact absurd rfl hn
    | cons x xs =>
      obtain ⟨_, l, e⟩ := hx x (List.mem_cons_self ..)
      simp only [List.map_cons, atomsB, e, kD, sortD] at h
      cases h
theorem rd_dctK (S : Sim K mu g H) (h : RV K (Own mu g) mu H v d) {ks ds : List D} (e : rd g d = .dct ks ds) (ha : atomsB ks = true) : ∃ a kvs, v = .ref a ∧ Rd H a (.dK kvs) ∧ RVs K (Own mu g) mu H (kvs.map fun p => kV p.1) ks ∧ RVs K (Own mu g) mu H (kvs.map (·.2)) ds := by
  obtain ⟨a, u, kv, vv, rfl, hr, c, r, r'⟩ := rd_dct S h e
  obtain ⟨kvs, rfl, rfl, rfl⟩ := c.atoms ha
  exact ⟨a, kvs, rfl, hr, r, r'⟩
theorem rd_obj (S : Sim K mu g H) (h : RV K (Own mu g) mu H v d) {C : Str} {ns : List Str} {ds : List D} (e : rd g d = .obj C ns ds) : ∃ a dx fs, v = .ref a ∧ H a = some (.ins (He.ga K C) dx fs) ∧ fs.map (·.1) = ns ∧ RVs K (Own mu g) mu H (fs.map (·.2)) ds := by
  cases h with
  | obj h1 h2 r => simp only [rd] at e; cases e; exact ⟨_, _, _, rfl, h2, rfl, r⟩
  | @ref n a hm =>
    simp only [rd] at e
    cases hg : g[n]? with
    | none => rw [hg] at e; cases e
    | some o =>
      rw [hg] at e
      cases o with
      | ins C' ns' ds' =>
        cases e
        obtain ⟨dx, fs, q, rn, r⟩ := S.at_ n _ a hg hm
        exact ⟨a, dx, fs, rfl, q, rn, r⟩
      | _ => cases e
  | _ => simp only [rd] at e <;> cases e
/-- values that are no objects are what they are -/
theorem rd_flat {x : D} (h : rd g d = x) (hx : kindD x < 3) : d = x := by
  cases d with
  | ref n =>
    exfalso
    simp only [rd] at h
    cases hg : g[n]? with
    | none => rw [hg] at h; subst h; simp [kindD] at hx
    | some o => rw [hg] at h; cases o <;> (subst h; simp [kindD] at hx)
  | _ => exact h
theorem rd_int (h : RV K (Own mu g) mu H v d) {i : Int} (e : rd g d = .int i) : v = .int i := by
  have := rd_flat e (by simp [kindD])
  subst this
  exact h.int_inv
theorem rd_bl (h : RV K (Own mu g) mu H v d) {i : Bool} (e : rd g d = .bl i) : v = .bl i := by
  have := rd_flat e (by simp [kindD])
  subst this
  exact h.bl_inv
theorem rd_str (h : RV K (Own mu g) mu H v d) {i : Str} (e : rd g d = .str i) : v = .str i := by
  have := rd_flat e (by simp [kindD])
  subst this
  exact h.str_inv
theorem rd_non (h : RV K (Own mu g) mu H v d) (e : rd g d = .non) : v = .non := by
  have := rd_flat e (by simp [kindD])
  subst this
  exact h.non_inv
/-- what may be read -/
inductive RB [Wd] (K : PySem.W.Frag) (own : Addr → Prop) (mu : List Addr) (H : Hp) : V → D → Prop
  | non : RB K own mu H .non .non
  | bl (b : Bool) : RB K own mu H (.bl b) (.bl b)
  | int (i : Int) : RB K own mu H (.int i) (.int i)
  | str (x : Str) : RB K own mu H (.str x) (.str x)
  | tup {a : Addr} {vs : List V} {ds : List D} : SqT K H a vs → RVs K own mu H vs ds → RB K own mu H (.ref a) (.tup ds)
  | lst {a : Addr} {vs : List V} {ds : List D} : SqL K H a vs → RVs K own mu H vs ds → RB K own mu H (.ref a) (.lst ds)
theorem rd_rb (S : Sim K mu g H) (h : RV K (Own mu g) mu H v d) (hk : kindD (rd g d) < 5) : RB K (Own mu g) mu H v (rd g d) := by
  cases e : rd g d with
  | non => rw [rd_non h e]; exact .non
  | bl b => rw [rd_bl h e]; exact .bl b
  | int i => rw [rd_int h e]; exact .int i
  | str x => rw [rd_str h e]; exact .str x
  | tup ds => obtain ⟨a, vs, rfl, q, r⟩ := rd_tup h e; exact .tup q r
  | lst ds => obtain ⟨a, vs, rfl, q, r⟩ := rd_lst S h e; exact .lst q r
  | _ => rw [e] at hk; simp [kindD] at hk
theorem RV.rb {own : Addr → Prop} (h : RV K own mu H v d) (hk : kindD d < 5) : RB K own mu H v d := by
  cases h with
  | non => exact .non
  | bl b => exact .bl b
  | int i => exact .int i
  | str x => exact .str x
  | tup q r => exact .tup q.seq r
  | lst q r => exact .lst q.seq r
  | _ => simp [kindD] at hk
end

/-! ### == -/
theorem eqO_kind {x y : D} {b : Bool} (h : eqO x y = some b) : kindD x < 5 ∧ kindD y < 5 := by
  unfold eqO at h
  split at h <;> first
    | (simp [kindD]; done)
    | (rename_i q1 q2 q3 q4 q5 q6 q7 q8
       split at h
       · assumption
       · cases h)
theorem eqOs_cons {x y : D} {xs ys : List D} {b : Bool} (h : eqOs (x :: xs) (y :: ys) = some b) : ∃ b1 b2, eqO x y = some b1 ∧ eqOs xs ys = some b2 ∧ b = (b1 && b2) := by
  simp only [eqOs] at h
  cases e1 : eqO x y with
  | none => rw [e1] at h; cases h
  | some b1 =>
    cases e2 : eqOs xs ys with
    | none => rw [e1, e2] at h; cases h
    | some b2 => rw [e1, e2] at h; cases h; exact ⟨b1, b2, rfl, rfl, rfl⟩
section
variable [Wd] {X : Cx} {pins : List (Addr × Obj)} {σ : L2.St} {H : Hp} {s : Shared} {own : Addr → Prop} {mu : List Addr}
theorem tupI {h : Heap} {a : Addr} {its : Array Value} (p : IsTup h a its) : h.IsTuple a its := p
theorem sq_apart (I : Inv X pins σ H s) {a : Addr} {vs ws : List V} (h1 : SqT X.K H a vs) (h2 : SqL X.K H a ws) : False := by
  obtain ⟨i1, r1, ⟨o1, e1, c1, _⟩, _⟩ := I.tuple h1
  obtain ⟨i2, r2, ⟨o2, n2, e2, c2, _⟩, _⟩ := I.list h2
  rw [e1] at e2; cases e2
  rw [c1] at c2; exact absurd c2 (by decide)
mutual
theorem eq_same (I : Inv X pins σ H s) : ∀ (x y : D) (v : V) (b : Bool), RB X.K own mu H v x → RB X.K own mu H v y → eqO x y = some b → b = true
  | .non, _, _, b, h1, h2, e => by cases h1; cases h2; simp only [eqO] at e; cases e; rfl
  | .bl c, _, _, b, h1, h2, e => by cases h1; cases h2; simp only [eqO] at e; cases e; simp
  | .int c, _, _, b, h1, h2, e => by cases h1; cases h2; simp only [eqO] at e; cases e; simp
  | .str c, _, _, b, h1, h2, e => by cases h1; cases h2; simp only [eqO] at e; cases e; simp
  | .tup xs, y, _, b, h1, h2, e => by
    cases h1 with
    | tup q r =>
      cases h2 with
      | tup q' r' =>
        have ev := I.tuple_inj q q'
        subst ev
        simp only [eqO] at e
        exact eq_sames I xs _ _ b r r' e
      | lst q' r' => exact (sq_apart I q q').elim
  | .lst xs, y, _, b, h1, h2, e => by
    cases h1 with
    | lst q r =>
      cases h2 with
      | lst q' r' =>
        have ev := I.list_inj q q'
        subst ev
        simp only [eqO] at e
        split at e
        · exact eq_sames I xs _ _ b r r' e
        · rename_i hn; exact absurd (r.length.symm.trans r'.length) hn
      | tup q' r' => exact (sq_apart I q' q).elim
  | .dct _ _, _, _, _, h1, _, _ => by cases h1
  | .obj _ _ _, _, _, _, h1, _, _ => by cases h1
  | .ref _, _, _, _, h1, _, _ => by cases h1
  | .fn _, _, _, _, h1, _, _ => by cases h1
  | .exc _ _ _, _, _, _, h1, _, _ => by cases h1
theorem eq_sames (I : Inv X pins σ H s) : ∀ (xs ys : List D) (vs : List V) (b : Bool), RVs X.K own mu H vs xs → RVs X.K own mu H vs ys → eqOs xs ys = some b → b = true
  | [], _, _, b, h1, h2, e => by cases h1; cases h2; simp only [eqOs] at e; cases e; rfl
  | x :: xs, _, _, b, h1, h2, e => by
    cases h1 with
    | cons q r =>
      cases h2 with
      | cons q' r' =>
        obtain ⟨b1, b2, e1, e2, rfl⟩ := eqOs_cons e
        have k := eqO_kind e1
        rw [eq_same I x _ _ b1 (q.rb k.1) (q'.rb k.2) e1, eq_sames I xs _ _ b2 r r' e2]; rfl
end
open SeqAt in
mutual
theorem eq_ok (I : Inv X pins σ H s) : ∀ (x y : D) (A : Around) (vx vy : V) (u w : Value) (b : Bool), RB X.K own mu H vx x → RB X.K own mu H vy y → RelV vx u → RelV vy w → eqO x y = some b → A.units + min (dep x) (dep y) < cLine → EqAt A s u w b
  | .non, y, A, _, _, u, w, b, h1, h2, ru, rw_, e, hu => by
    cases h1
    cases ru
    cases h2 with
    | non => simp only [eqO] at e; cases e; cases rw_; exact EqAt.same _
    | bl c => simp [eqO, kindD] at e; subst e; cases rw_; exact EqAt.none_bool _
    | int i => simp [eqO, kindD] at e; subst e; obtain ⟨t, rfl⟩ := rw_; exact EqAt.none_int i t
    | str i => simp [eqO, kindD] at e; subst e; obtain ⟨t, rfl⟩ := rw_; exact EqAt.none_str i t
    | tup q r => simp [eqO, kindD] at e; subst e; cases rw_; obtain ⟨i2, r2, p2, _⟩ := I.tuple q; exact EqAt.none_tuple (tupI p2) (room_here hu)
    | lst q r => simp [eqO, kindD] at e; subst e; cases rw_; obtain ⟨i2, r2, p2, _⟩ := I.list q; exact EqAt.none_list p2.isList (room_here hu)
  | .bl a, y, A, _, _, u, w, b, h1, h2, ru, rw_, e, hu => by
    cases h1
    cases ru
    cases h2 with
    | non => simp [eqO, kindD] at e; subst e; cases rw_; exact EqAt.bool_none _
    | bl c => simp only [eqO] at e; cases e; cases rw_; exact EqAt.bool_bool _ _
    | int i => simp only [eqO] at e; cases e; obtain ⟨t, rfl⟩ := rw_; exact EqAt.bool_int a i t
    | str i => simp [eqO, kindD] at e; subst e; obtain ⟨t, rfl⟩ := rw_; exact EqAt.bool_str a i t
    | tup q r => simp [eqO, kindD] at e; subst e; cases rw_; obtain ⟨i2, r2, p2, _⟩ := I.tuple q; exact EqAt.bool_tuple _ (tupI p2) (room_here hu)
    | lst q r => simp [eqO, kindD] at e; subst e; cases rw_; obtain ⟨i2, r2, p2, _⟩ := I.list q; exact EqAt.bool_list _ p2.isList (room_here hu)
  | .int a, y, A, _, _, u, w, b, h1, h2, ru, rw_, e, hu => by
    cases h1
    obtain ⟨t0, rfl⟩ := ru
    cases h2 with
    | non => simp [eqO, kindD] at e; subst e; cases rw_; exact EqAt.int_none _ _
    | bl c => simp only [eqO] at e; cases e; cases rw_; exact EqAt.int_bool _ _ _
    | int i => simp only [eqO] at e; cases e; obtain ⟨t, rfl⟩ := rw_; exact EqAt.int_int a t0 i t
    | str i => simp [eqO, kindD] at e; subst e; obtain ⟨t, rfl⟩ := rw_; exact EqAt.int_str a t0 i t
    | tup q r => simp [eqO, kindD] at e; subst e; cases rw_; obtain ⟨i2, r2, p2, _⟩ := I.tuple q; exact EqAt.int_tuple _ _ (tupI p2) (room_here hu)
    | lst q r => simp [eqO, kindD] at e; subst e; cases rw_; obtain ⟨i2, r2, p2, _⟩ := I.list q; exact EqAt.int_list _ _ p2.isList (room_here hu)
  | .str a, y, A, _, _, u, w, b, h1, h2, ru, rw_, e, hu => by
    cases h1
    obtain ⟨t0, rfl⟩ := ru
    cases h2 with
    | non => simp [eqO, kindD] at e; subst e; cases rw_; exact EqAt.str_none _ _
    | bl c => simp [eqO, kindD] at e; subst e; cases rw_; exact EqAt.str_bool _ _ _
    | int i => simp [eqO, kindD] at e; subst e; obtain ⟨t, rfl⟩ := rw_; exact EqAt.str_int a t0 i t
    | str i => simp only [eqO] at e; cases e; obtain ⟨t, rfl⟩ := rw_; exact EqAt.str_str a t0 i t
    | tup q r => simp [eqO, kindD] at e; subst e; cases rw_; obtain ⟨i2, r2, p2, _⟩ := I.tuple q; exact EqAt.str_tuple _ _ (tupI p2) (room_here hu)
    | lst q r => simp [eqO, kindD] at e; subst e; cases rw_; obtain ⟨i2, r2, p2, _⟩ := I.list q; exact EqAt.str_list _ _ p2.isList (room_here hu)
  | .tup xs, y, A, vx, vy, u, w, b, h1, h2, ru, rw_, e, hu => by
    cases h1 with
    | @tup a1 vs1 _ q1 r1 =>
      cases ru
      obtain ⟨i1, rr1, p1, _⟩ := I.tuple q1
      cases h2 with
      | non => simp [eqO, kindD] at e; subst e; cases rw_; exact EqAt.tuple_none (tupI p1) (room_here hu)
      | bl c => simp [eqO, kindD] at e; subst e; cases rw_; exact EqAt.tuple_bool _ (tupI p1) (room_here hu)
      | int i => simp [eqO, kindD] at e; subst e; obtain ⟨t, rfl⟩ := rw_; exact EqAt.tuple_int _ _ (tupI p1) (room_here hu)
      | str i => simp [eqO, kindD] at e; subst e; obtain ⟨t, rfl⟩ := rw_; exact EqAt.tuple_str _ _ (tupI p1) (room_here hu)
      | lst q r => simp [eqO, kindD] at e; subst e; cases rw_; obtain ⟨i2, r2, p2, _⟩ := I.list q; exact EqAt.tuple_list (tupI p1) p2.isList (room_here hu)
      | @tup a2 vs2 ys q2 r2 =>
        cases rw_
        obtain ⟨i2, rr2, p2, _⟩ := I.tuple q2
        by_cases ha : a1 = a2
        · subst ha
          have := eq_same I (.tup xs) (.tup ys) _ b (.tup q1 r1) (.tup q2 r2) e
          subst this
          exact EqAt.same _
        · simp only [eqO] at e
          simp only [dep] at hu
          obtain ⟨f, hf, hb⟩ := eq_oks I xs ys A.in1 vs1 vs2 i1 i2 b r1 r2 rr1 rr2 e (room_in hu)
          refine EqAt.of_refs ha ?_
          rw [← hb]
          have h3 := RcAt.tuples (e := f) (tupI p1) (tupI p2) (room_here hu) (fun j h1 h2 => by
            rw [List.size_toArray] at h1 h2
            have := hf j h1 h2
            simpa using this)
          simpa using h3
  | .lst xs, y, A, vx, vy, u, w, b, h1, h2, ru, rw_, e, hu => by
    cases h1 with
    | @lst a1 vs1 _ q1 r1 =>
      cases ru
      obtain ⟨i1, rr1, p1, _⟩ := I.list q1
      cases h2 with
      | non => simp [eqO, kindD] at e; subst e; cases rw_; exact EqAt.list_none p1.isList (room_here hu)
      | bl c => simp [eqO, kindD] at e; subst e; cases rw_; exact EqAt.list_bool _ p1.isList (room_here hu)
      | int i => simp [eqO, kindD] at e; subst e; obtain ⟨t, rfl⟩ := rw_; exact EqAt.list_int _ _ p1.isList (room_here hu)
      | str i => simp [eqO, kindD] at e; subst e; obtain ⟨t, rfl⟩ := rw_; exact EqAt.list_str _ _ p1.isList (room_here hu)
      | tup q r => simp [eqO, kindD] at e; subst e; cases rw_; obtain ⟨i2, r2, p2, _⟩ := I.tuple q; exact EqAt.list_tuple p1.isList (tupI p2) (room_here hu)
      | @lst a2 vs2 ys q2 r2 =>
        cases rw_
        obtain ⟨i2, rr2, p2, _⟩ := I.list q2
        have l1 : i1.length = xs.length := rr1.length.symm.trans r1.length
        have l2 : i2.length = ys.length := rr2.length.symm.trans r2.length
        by_cases ha : a1 = a2
        · subst ha
          have := eq_same I (.lst xs) (.lst ys) _ b (.lst q1 r1) (.lst q2 r2) e
          subst this
          exact EqAt.same _
        · simp only [eqO] at e
          simp only [dep] at hu
          split at e
          · rename_i hl
            obtain ⟨f, hf, hb⟩ := eq_oks I xs ys A.in1 vs1 vs2 i1 i2 b r1 r2 rr1 rr2 e (room_in hu)
            refine EqAt.of_refs ha ?_
            have h3 := RcAt.lists (e := f) p1.isList p2.isList (by simp [l1, l2, hl]) (room_here hu) (fun j h1 h2 => by
              rw [List.size_toArray] at h1 h2
              have := hf j h1 h2
              simpa using this)
            rw [l1, l2, hl] at hb
            simp at hb
            rw [show b = (List.range i1.toArray.size).all f by rw [← hb]; simp [l1, hl]]
            exact h3
          · rename_i hl
            cases e
            exact EqAt.of_refs ha (RcAt.lists_lengths p1.isList p2.isList (by simp [l1, l2, hl]) (room_here hu))
  | .dct _ _, _, _, _, _, _, _, _, h1, _, _, _, _, _ => by cases h1
  | .obj _ _ _, _, _, _, _, _, _, _, h1, _, _, _, _, _ => by cases h1
  | .ref _, _, _, _, _, _, _, _, h1, _, _, _, _, _ => by cases h1
  | .fn _, _, _, _, _, _, _, _, h1, _, _, _, _, _ => by cases h1
  | .exc _ _ _, _, _, _, _, _, _, _, h1, _, _, _, _, _ => by cases h1
theorem eq_oks (I : Inv X pins σ H s) : ∀ (xs ys : List D) (A : Around) (vs ws : List V) (us zs : List Value) (b : Bool), RVs X.K own mu H vs xs → RVs X.K own mu H ws ys → Vals vs us → Vals ws zs → eqOs xs ys = some b →
    A.units + min (deps xs) (deps ys) < cLine → ∃ f : Nat → Bool, (∀ j (h1 : j < us.length) (h2 : j < zs.length), EqAt A s us[j] zs[j] (f j)) ∧ ((List.range (min us.length zs.length)).all f && us.length == zs.length) = b
  | [], [], A, _, _, us, zs, b, h1, h2, r1, r2, e, hu => by
    cases h1; cases h2; cases r1; cases r2
    simp only [eqOs] at e; cases e
    exact ⟨fun _ => true, fun j h => absurd h (Nat.not_lt_zero _), rfl⟩
  | [], y :: ys, A, _, _, us, zs, b, h1, h2, r1, r2, e, hu => by
    cases h1; cases r1
    simp only [eqOs] at e; cases e
    have l2 := r2.length.symm.trans h2.length
    refine ⟨fun _ => true, fun j h => absurd h (Nat.not_lt_zero _), ?_⟩
    simp [l2]
  | x :: xs, [], A, _, _, us, zs, b, h1, h2, r1, r2, e, hu => by
    cases h2; cases r2
    simp only [eqOs] at e; cases e
    have l1 := r1.length.symm.trans h1.length
    refine ⟨fun _ => true, fun j _ h => absurd h (Nat.not_lt_zero _), ?_⟩
    simp [l1]
  | x :: xs, y :: ys, A, _, _, _, _, b, h1, h2, r1, r2, e, hu => by
    cases h1 with
    | cons q1 t1 =>
      cases h2 with
      | cons q2 t2 =>
        cases r1 with
        | cons ru rus =>
          cases r2 with
          | cons rz rzs =>
            obtain ⟨b1, b2, e1, e2, rfl⟩ := eqOs_cons e
            have k := eqO_kind e1
            simp only [deps] at hu
            obtain ⟨f, hf, hb⟩ := eq_oks I xs ys A _ _ _ _ b2 t1 t2 rus rzs e2 (room_tail hu)
            have h0 := eq_ok I x y A _ _ _ _ b1 (q1.rb k.1) (q2.rb k.2) ru rz e1 (room_head hu)
            refine ⟨fun j => match j with | 0 => b1 | j + 1 => f j, fun j h1 h2 => ?_, ?_⟩
            · cases j with
              | zero => exact h0
              | succ j => exact hf j (Nat.lt_of_succ_lt_succ h1) (Nat.lt_of_succ_lt_succ h2)
            · rw [← hb]
              simp only [List.length_cons]
              rw [Nat.succ_min_succ, List.range_succ_eq_map]
              simp [List.all_map, Function.comp_def, Bool.and_assoc]
end
end
end DL

set_option Elab.async false
set_option linter.all false
set_option maxRecDepth 100000
set_option maxHeartbeats 4000000
/-! the deep layer: operations -/
namespace DL
open PySem PySem.Spec PyProof.Rows L2

/-- what follows a value -/
abbrev Kt [Wd] (K : PySem.W.Frag) (mu : List Addr) (g : G) (H : Hp) (g' : G) (z : D) (Q : VK) : Prop := ∀ mu' H', Ext mu g H mu' g' H' → Sim K mu' g' H' → ∀ v, RV K (Own mu' g') mu' H' v z → Q v H'
section
variable [Wd] {K : PySem.W.Frag} {mu : List Addr} {g g' : G} {H : Hp} {Q : VK}
theorem Kt.flat (S : Sim K mu g H) {z : D} {v : V} (k : Kt K mu g H g z Q) (r : RV K (Own mu g) mu H v z) : Q v H := k mu H .refl S v r
theorem Kt.newTup (S : Sim K mu g H) {ds : List D} {vs : List V} (r : RVs K (Own mu g) mu H vs ds) (k : Kt K mu g H g (.tup ds) Q) : ∀ p, H p = none → Q (.ref p) (upd H p (.tup vs)) := fun p hp =>
  k mu _ (.new hp) (S.new hp) _ (.tup (.inl ⟨(S.nown_fresh hp), .inl upd_same⟩) (r.ext (.new hp)))
theorem Kt.newLst (S : Sim K mu g H) {ds : List D} {vs : List V} (r : RVs K (Own mu g) mu H vs ds) (k : Kt K mu g H g (.lst ds) Q) : ∀ p, H p = none → Q (.ref p) (upd H p (.lst vs)) := fun p hp =>
  k mu _ (.new hp) (S.new hp) _ (.lst (.inl ⟨(S.nown_fresh hp), .inl upd_same⟩) (r.ext (.new hp)))
theorem Kt.allocLst (S : Sim K mu g H) {ds : List D} {vs : List V} (r : RVs K (Own mu g) mu H vs ds) (k : Kt K mu g H (g ++ [.lst ds]) (.ref g.length) Q) : ∀ p, H p = none → Q (.ref p) (upd H p (.lst vs)) := fun p hp =>
  k (mu ++ [p]) _ (.alloc S.len hp) (S.alloc hp ⟨vs, upd_same, r.ext (.alloc S.len hp)⟩) _ (.ref (by rw [← S.len]; simp))
theorem Kt.mkDct (S : Sim K mu g H) {fz : Bool} {ks ds : List D} {kvs : List (Key × V)} (r1 : RVs K (Own mu g) mu H (kvs.map fun p => kV p.1) ks) (r2 : RVs K (Own mu g) mu H (kvs.map (·.2)) ds) (k : Wp K X mu g H (mkD fz ks ds g) fun mu' g' H' d => ∀ v, RV K (Own mu' g') mu' H' v d → Q v H') :
    (fz = false → ∀ p, H p = none → Q (.ref p) (upd H p (.dK kvs))) ∧ (fz = true → ∀ p od, H p = none → Q (.ref p) (upd H p (.frz od (.dK kvs)))) := by
  cases fz with
  | true => exact ⟨(fun h => by cases h), fun _ p od hp => k mu _ (.new hp) (S.new hp) _ (.dct (S.nown_fresh hp) upd_same (.k _ _) (r1.ext (.new hp)) (r2.ext (.new hp)))⟩
  | false => exact ⟨(fun _ p hp => k (mu ++ [p]) _ (.alloc S.len hp) (S.alloc hp ⟨_, _, _, upd_same, .k kvs _, r1.ext (.alloc S.len hp), r2.ext (.alloc S.len hp)⟩) _ (.ref (by rw [← S.len]; simp))), fun h => by cases h⟩
theorem Kt.mkLst (S : Sim K mu g H) {fz : Bool} {ds : List D} {vs : List V} (r : RVs K (Own mu g) mu H vs ds) (k : Wp K X mu g H (mkL fz ds g) fun mu' g' H' d => ∀ v, RV K (Own mu' g') mu' H' v d → Q v H') : ∀ p, H p = none → Q (.ref p) (upd H p (.lst vs)) := by
  cases fz with
  | true => exact Kt.newLst S r k
  | false => exact Kt.allocLst S r k
end

section
variable [Wd] {X : Cx} {pins : List (Addr × Obj)} {σ : L2.St} {H : Hp} {s : Shared} {own : Addr → Prop} {mu : List Addr}
mutual
theorem eq_congr (I : Inv X pins σ H s) : ∀ (x y z : D) (v : V) (b b' : Bool), RB X.K own mu H v x → RB X.K own mu H v y → eqO x z = some b → eqO y z = some b' → b = b'
  | .non, _, z, _, b, b', h1, h2, e, e' => by cases h1; cases h2; rw [e] at e'; cases e'; rfl
  | .bl c, _, z, _, b, b', h1, h2, e, e' => by cases h1; cases h2; rw [e] at e'; cases e'; rfl
  | .int c, _, z, _, b, b', h1, h2, e, e' => by cases h1; cases h2; rw [e] at e'; cases e'; rfl
  | .str c, _, z, _, b, b', h1, h2, e, e' => by cases h1; cases h2; rw [e] at e'; cases e'; rfl
  | .tup xs, y, z, _, b, b', h1, h2, e, e' => by
    cases h1 with
    | tup q r =>
      cases h2 with
      | tup q' r' =>
        have ev := I.tuple_inj q q'
        subst ev
        cases z with
        | tup zs => simp only [eqO] at e e'; exact eq_congrs I xs _ zs _ b b' r r' e e'
        | _ => simp [eqO, kindD] at e e' <;> (try subst e; subst e'; rfl)
      | lst q' r' => exact (sq_apart I q q').elim
  | .lst xs, y, z, _, b, b', h1, h2, e, e' => by
    cases h1 with
    | lst q r =>
      cases h2 with
      | lst q' r' =>
        have ev := I.list_inj q q'
        subst ev
        cases z with
        | lst zs =>
          simp only [eqO] at e e'
          have l1 := r.length
          have l2 := r'.length
          by_cases hl : xs.length = zs.length
          · rw [if_pos hl] at e
            rw [if_pos (by omega)] at e'
            exact eq_congrs I xs _ zs _ b b' r r' e e'
          · rw [if_neg hl] at e
            rw [if_neg (by omega)] at e'
            rw [e] at e'; cases e'; rfl
        | _ => simp [eqO, kindD] at e e' <;> (try subst e; subst e'; rfl)
      | tup q' r' => exact (sq_apart I q' q).elim
  | .dct _ _, _, _, _, _, _, h1, _, _, _ => by cases h1
  | .obj _ _ _, _, _, _, _, _, h1, _, _, _ => by cases h1
  | .ref _, _, _, _, _, _, h1, _, _, _ => by cases h1
  | .fn _, _, _, _, _, _, h1, _, _, _ => by cases h1
  | .exc _ _ _, _, _, _, _, _, h1, _, _, _ => by cases h1
theorem eq_congrs (I : Inv X pins σ H s) : ∀ (xs ys zs : List D) (vs : List V) (b b' : Bool), RVs X.K own mu H vs xs → RVs X.K own mu H vs ys → eqOs xs zs = some b → eqOs ys zs = some b' → b = b'
  | [], _, zs, _, b, b', h1, h2, e, e' => by cases h1; cases h2; rw [e] at e'; cases e'; rfl
  | x :: xs, _, [], _, b, b', h1, h2, e, e' => by
    cases h1 with
    | cons q r =>
      cases h2 with
      | cons q' r' => simp only [eqOs] at e e'; cases e; cases e'; rfl
  | x :: xs, _, z :: zs, _, b, b', h1, h2, e, e' => by
    cases h1 with
    | cons q r =>
      cases h2 with
      | cons q' r' =>
        obtain ⟨b1, b2, e1, e2, rfl⟩ := eqOs_cons e
        obtain ⟨c1, c2, e3, e4, rfl⟩ := eqOs_cons e'
        have k := eqO_kind e1
        have k' := eqO_kind e3
        rw [eq_congr I x _ z _ b1 c1 (q.rb k.1) (q'.rb k'.1) e1 e3, eq_congrs I xs _ zs _ b2 c2 r r' e2 e4]
end
theorem eqD_some {x y : D} {b : Bool} (h : eqD x y = some b) : min (dep x) (dep y) ≤ 60 ∧ eqO x y = some b := by
  unfold eqD at h
  split at h
  · exact ⟨by assumption, h⟩
  · cases h
theorem inOs_cons {x y : D} {ys : List D} {b : Bool} (h : inOs x (y :: ys) = some b) : ∃ b1 b2, eqD y x = some b1 ∧ inOs x ys = some b2 ∧ b = (b1 || b2) := by
  simp only [inOs] at h
  cases e1 : eqD y x with
  | none => rw [e1] at h; cases h
  | some b1 =>
    cases e2 : inOs x ys with
    | none => rw [e1, e2] at h; cases h
    | some b2 => rw [e1, e2] at h; cases h; exact ⟨b1, b2, rfl, rfl, rfl⟩
/-- the items' answers -/
theorem in_bits (I : Inv X pins σ H s) {x : D} {vx : V} {u : Value} {A : Around} (hx : kindD x < 5 → RB X.K own mu H vx x) (ru : RelV vx u) (hu : A.units + 60 < cLine) : ∀ (ys : List D) (vs : List V) (us : List Value) (b : Bool), RVs X.K own mu H vs ys → Vals vs us → inOs x ys = some b →
    ∃ f : Nat → Bool, (∀ j (h : j < us.length), SeqAt.EqAt A s us[j] u (f j)) ∧ (∀ i j (h : i < us.length) (h' : j < us.length), us[i] = us[j] → f i = f j) ∧ ((List.range us.length).any f) = b
  | [], _, us, b, h1, r1, e => by
    cases h1; cases r1; simp only [inOs] at e; cases e
    exact ⟨fun _ => false, fun j h => absurd h (Nat.not_lt_zero _), fun i j h => absurd h (Nat.not_lt_zero _), rfl⟩
  | y :: ys, vs, us, b, h1, r1, e => by
    have all : ∀ (j : Nat) (h : j < us.length), ∃ bj yj vj, (y :: ys)[j]? = some yj ∧ vs[j]? = some vj ∧ RB X.K own mu H vj yj ∧ RelV vj us[j] ∧ eqD yj x = some bj := by
      intro j h
      have hl : us.length = (y :: ys).length := r1.length.symm.trans h1.length
      have gen : ∀ (l : List D) (b : Bool) (j : Nat), inOs x l = some b → j < l.length → ∃ bj yj, l[j]? = some yj ∧ eqD yj x = some bj := by
        intro l
        induction l with
        | nil => intro b j _ h; exact absurd h (Nat.not_lt_zero _)
        | cons z zs ih =>
          intro b j e h
          obtain ⟨b1, b2, e1, e2, _⟩ := inOs_cons e
          cases j with
          | zero => exact ⟨b1, z, rfl, e1⟩
          | succ j => exact ih b2 j e2 (Nat.lt_of_succ_lt_succ h)
      obtain ⟨bj, yj, hy, he⟩ := gen _ b j e (by omega)
      obtain ⟨vj, hv, rv⟩ := h1.get hy
      obtain ⟨uj, hu', rj⟩ := r1.get hv
      have : us[j] = uj := by
        have := List.getElem?_eq_getElem h
        rw [this] at hu'
        exact Option.some.inj hu'
      rw [this]
      exact ⟨bj, yj, vj, hy, hv, rv.rb (eqO_kind (eqD_some he).2).1, rj, he⟩
    have gen2 : ∀ (l : List D) (b : Bool), inOs x l = some b → ((List.range l.length).any fun j => ((l[j]?).bind fun y => eqD y x).getD false) = b := by
      intro l
      induction l with
      | nil => intro b e; simp only [inOs] at e; cases e; rfl
      | cons z zs ih =>
        intro b e
        obtain ⟨b1, b2, e1, e2, rfl⟩ := inOs_cons e
        rw [List.length_cons, List.range_succ_eq_map]
        simp only [List.any_cons, List.any_map, Function.comp_def]
        rw [← ih b2 e2]
        simp [e1]
    have hl : us.length = (y :: ys).length := r1.length.symm.trans h1.length
    refine ⟨fun j => (((y :: ys)[j]?).bind fun y => eqD y x).getD false, fun j h => ?_, fun i j h h' eij => ?_, by rw [hl]; exact gen2 _ b e⟩
    · obtain ⟨bj, yj, vj, hy, hv, rb, rj, he⟩ := all j h
      dsimp only
      rw [hy]
      simp only [Option.bind_some, he, Option.getD_some]
      obtain ⟨hd, he'⟩ := eqD_some he
      exact eq_ok I yj x A vj vx us[j] u bj rb (hx (eqO_kind he').2) rj ru he' (by omega)
    · obtain ⟨bi, yi, vi, hyi, hvi, rbi, ri, hei⟩ := all i h
      obtain ⟨bj, yj, vj, hyj, hvj, rbj, rj, hej⟩ := all j h'
      dsimp only
      rw [hyi, hyj]
      simp only [Option.bind_some, hei, hej, Option.getD_some]
      have ev : vi = vj := by rw [eij] at ri; exact ri.inj rj
      subst ev
      exact eq_congr I yi yj x vi bi bj rbi rbj (eqD_some hei).2 (eqD_some hej).2
theorem in_fun {us : List Value} {f : Nat → Bool} (h : ∀ i j (h : i < us.length) (h' : j < us.length), us[i] = us[j] → f i = f j) : ∃ e : Value → Bool, (∀ j (h : j < us.length), e us[j] = f j) ∧ us.any e = (List.range us.length).any f := by
  classical
  refine ⟨fun u => decide (∃ j, ∃ h : j < us.length, us[j] = u ∧ f j = true), fun j hj => ?_, ?_⟩
  · cases hf : f j with
    | true => exact decide_eq_true ⟨j, hj, rfl, hf⟩
    | false =>
      refine decide_eq_false fun ⟨i, hi, e, ft⟩ => ?_
      rw [h i j hi hj e, hf] at ft
      cases ft
  · rw [Bool.eq_iff_iff]
    simp only [List.any_eq_true, List.mem_range]
    constructor
    · rintro ⟨u, hu, hd⟩
      obtain ⟨j, hj, _, ft⟩ := of_decide_eq_true hd
      exact ⟨j, hj, ft⟩
    · rintro ⟨j, hj, ft⟩
      exact ⟨us[j], List.getElem_mem hj, decide_eq_true ⟨j, hj, rfl, ft⟩⟩
end

section
variable [Wd] {X : Cx}
def rCatL (K : PySem.W.Frag) : R2 := fun x y H Q => ∃ l b xs zs, x = .ref l ∧ y = .ref b ∧ SqL K H l xs ∧ SqL K H b zs ∧ xs.length + zs.length ≤ sizeLine ∧ ∀ p, H p = none → Q (.ref p) (upd H p (.lst (xs ++ zs)))
theorem op_catL : OpR X (binaryOp .Add) (rCatL X.K) := by
  intro pins s σ H x y v u Q I rx ry h
  obtain ⟨l, b, xs, zs, rfl, rfl, hH, hB, hz, q⟩ := h
  cases rx
  cases ry
  obtain ⟨its, r, ⟨o, n, e, c, dd, hd⟩, hl⟩ := I.list hH
  obtain ⟨its2, r2, ⟨o2, n2, e2, c2, dd2, hd2⟩, hl2⟩ := I.list hB
  obtain ⟨oc, od, dt, sl⟩ := o
  obtain ⟨oc2, od2, dt2, sl2⟩ := o2
  simp only at c hd c2 hd2
  subst c hd c2 hd2
  have l1 := r.length
  have l2 := r2.length
  refine concat_meets ⟨_, e, rfl⟩ ⟨_, e2, rfl⟩ noFill_list_add seq_list_add PySem.F.slot_list_add PySem.F.entry_list_add (PySem.F.args_list_add_2 _ _) (list_addW l b its.toArray its2.toArray n n2 od od2 sl sl2 (by rw [List.size_toArray, List.size_toArray]; omega)) ⟨e, e2, ?_⟩
  have ea : its.toArray ++ its2.toArray = (its ++ its2).toArray := by simp
  rw [ea]
  exact ⟨.ref _, _, I.lnew (t' := s.toks) (r.append r2) (by rw [List.length_append]; omega), rfl, q _ I.fresh⟩
/-- == and in, over what may be read -/
def rEqB (K : PySem.W.Frag) (neg : Bool) : R2 := fun x y H Q => ∃ (own : Addr → Prop) (mu : List Addr) (d e : D) (b : Bool), RB K own mu H x d ∧ RB K own mu H y e ∧ eqD d e = some b ∧ Q (.bl (if neg then !b else b)) H
theorem op_eqB (hu : X.A.units + 64 < cLine) : OpR X (compareOp .Eq) (rEqB X.K false) := by
  intro pins s σ H x y v u Q I rx ry h
  obtain ⟨own, mu, d, e, b, hd, he, hb, q⟩ := h
  obtain ⟨hm, hb'⟩ := eqD_some hb
  have key : SeqAt.RcAt X.A s v u b := by
    cases hd with
    | non =>
      cases rx
      cases he with
      | non => simp only [eqO] at hb'; cases hb'; cases ry; exact SeqAt.RcAt.none_none
      | bl c => simp [eqO, kindD] at hb'; subst hb'; cases ry; exact SeqAt.RcAt.none_bool _
      | int i => simp [eqO, kindD] at hb'; subst hb'; obtain ⟨t, rfl⟩ := ry; exact SeqAt.RcAt.none_int i t
      | str i => simp [eqO, kindD] at hb'; subst hb'; obtain ⟨t, rfl⟩ := ry; exact SeqAt.RcAt.none_str i t
      | tup qq rr => simp [eqO, kindD] at hb'; subst hb'; cases ry; obtain ⟨i2, r2, p2, _⟩ := I.tuple qq; exact SeqAt.RcAt.none_tuple (tupI p2) (by omega)
      | lst qq rr => simp [eqO, kindD] at hb'; subst hb'; cases ry; obtain ⟨i2, r2, p2, _⟩ := I.list qq; exact SeqAt.RcAt.none_list p2.isList (by omega)
    | bl a =>
      cases rx
      cases he with
      | non => simp [eqO, kindD] at hb'; subst hb'; cases ry; exact SeqAt.RcAt.bool_none _
      | bl c => simp only [eqO] at hb'; cases hb'; cases ry; exact SeqAt.RcAt.bool_bool _ _
      | int i => simp only [eqO] at hb'; cases hb'; obtain ⟨t, rfl⟩ := ry; exact SeqAt.RcAt.bool_int a i t
      | str i => simp [eqO, kindD] at hb'; subst hb'; obtain ⟨t, rfl⟩ := ry; exact SeqAt.RcAt.bool_str a i t
      | tup qq rr => simp [eqO, kindD] at hb'; subst hb'; cases ry; obtain ⟨i2, r2, p2, _⟩ := I.tuple qq; exact SeqAt.RcAt.bool_tuple _ (tupI p2) (by omega)
      | lst qq rr => simp [eqO, kindD] at hb'; subst hb'; cases ry; obtain ⟨i2, r2, p2, _⟩ := I.list qq; exact SeqAt.RcAt.bool_list _ p2.isList (by omega)
    | int a =>
      obtain ⟨t0, rfl⟩ := rx
      cases he with
      | non => simp [eqO, kindD] at hb'; subst hb'; cases ry; exact SeqAt.RcAt.int_none _ _
      | bl c => simp only [eqO] at hb'; cases hb'; cases ry; exact SeqAt.RcAt.int_bool _ _ _
      | int i => simp only [eqO] at hb'; cases hb'; obtain ⟨t, rfl⟩ := ry; exact SeqAt.RcAt.int_int a t0 i t
      | str i => simp [eqO, kindD] at hb'; subst hb'; obtain ⟨t, rfl⟩ := ry; exact SeqAt.RcAt.int_str a t0 i t
      | tup qq rr => simp [eqO, kindD] at hb'; subst hb'; cases ry; obtain ⟨i2, r2, p2, _⟩ := I.tuple qq; exact SeqAt.RcAt.int_tuple _ _ (tupI p2) (by omega)
      | lst qq rr => simp [eqO, kindD] at hb'; subst hb'; cases ry; obtain ⟨i2, r2, p2, _⟩ := I.list qq; exact SeqAt.RcAt.int_list _ _ p2.isList (by omega)
    | str a =>
      obtain ⟨t0, rfl⟩ := rx
      cases he with
      | non => simp [eqO, kindD] at hb'; subst hb'; cases ry; exact SeqAt.RcAt.str_none _ _
      | bl c => simp [eqO, kindD] at hb'; subst hb'; cases ry; exact SeqAt.RcAt.str_bool _ _ _
      | int i => simp [eqO, kindD] at hb'; subst hb'; obtain ⟨t, rfl⟩ := ry; exact SeqAt.RcAt.str_int a t0 i t
      | str i => simp only [eqO] at hb'; cases hb'; obtain ⟨t, rfl⟩ := ry; exact SeqAt.RcAt.str_str a t0 i t
      | tup qq rr => simp [eqO, kindD] at hb'; subst hb'; cases ry; obtain ⟨i2, r2, p2, _⟩ := I.tuple qq; exact SeqAt.RcAt.str_tuple _ _ (tupI p2) (by omega)
      | lst qq rr => simp [eqO, kindD] at hb'; subst hb'; cases ry; obtain ⟨i2, r2, p2, _⟩ := I.list qq; exact SeqAt.RcAt.str_list _ _ p2.isList (by omega)
    | @tup a1 vs1 xs q1 r1 =>
      cases rx
      obtain ⟨i1, rr1, p1, _⟩ := I.tuple q1
      cases he with
      | non => simp [eqO, kindD] at hb'; subst hb'; cases ry; exact SeqAt.RcAt.tuple_none (tupI p1) (by omega)
      | bl c => simp [eqO, kindD] at hb'; subst hb'; cases ry; exact SeqAt.RcAt.tuple_bool _ (tupI p1) (by omega)
      | int i => simp [eqO, kindD] at hb'; subst hb'; obtain ⟨t, rfl⟩ := ry; exact SeqAt.RcAt.tuple_int _ _ (tupI p1) (by omega)
      | str i => simp [eqO, kindD] at hb'; subst hb'; obtain ⟨t, rfl⟩ := ry; exact SeqAt.RcAt.tuple_str _ _ (tupI p1) (by omega)
      | lst qq rr => simp [eqO, kindD] at hb'; subst hb'; cases ry; obtain ⟨i2, r2, p2, _⟩ := I.list qq; exact SeqAt.RcAt.tuple_list (tupI p1) p2.isList (by omega)
      | @tup a2 vs2 ys q2 r2 =>
        cases ry
        obtain ⟨i2, rr2, p2, _⟩ := I.tuple q2
        simp only [eqO] at hb'
        simp only [dep] at hm
        obtain ⟨f, hf, hbb⟩ := eq_oks I xs ys X.A.in1 vs1 vs2 i1 i2 b r1 r2 rr1 rr2 hb' (by show X.A.units + 1 + _ < _; omega)
        rw [← hbb]
        have h3 := SeqAt.RcAt.tuples (A := X.A) (e := f) (tupI p1) (tupI p2) (by omega) (fun j h1 h2 => by
          rw [List.size_toArray] at h1 h2
          have := hf j h1 h2
          simpa using this)
        simpa using h3
    | @lst a1 vs1 xs q1 r1 =>
      cases rx
      obtain ⟨i1, rr1, p1, _⟩ := I.list q1
      cases he with
      | non => simp [eqO, kindD] at hb'; subst hb'; cases ry; exact SeqAt.RcAt.list_none p1.isList (by omega)
      | bl c => simp [eqO, kindD] at hb'; subst hb'; cases ry; exact SeqAt.RcAt.list_bool _ p1.isList (by omega)
      | int i => simp [eqO, kindD] at hb'; subst hb'; obtain ⟨t, rfl⟩ := ry; exact SeqAt.RcAt.list_int _ _ p1.isList (by omega)
      | str i => simp [eqO, kindD] at hb'; subst hb'; obtain ⟨t, rfl⟩ := ry; exact SeqAt.RcAt.list_str _ _ p1.isList (by omega)
      | tup qq rr => simp [eqO, kindD] at hb'; subst hb'; cases ry; obtain ⟨i2, r2, p2, _⟩ := I.tuple qq; exact SeqAt.RcAt.list_tuple p1.isList (tupI p2) (by omega)
      | @lst a2 vs2 ys q2 r2 =>
        cases ry
        obtain ⟨i2, rr2, p2, _⟩ := I.list q2
        have l1 : i1.length = xs.length := rr1.length.symm.trans r1.length
        have l2 : i2.length = ys.length := rr2.length.symm.trans r2.length
        simp only [eqO] at hb'
        simp only [dep] at hm
        split at hb'
        · rename_i hl
          obtain ⟨f, hf, hbb⟩ := eq_oks I xs ys X.A.in1 vs1 vs2 i1 i2 b r1 r2 rr1 rr2 hb' (by show X.A.units + 1 + _ < _; omega)
          have h3 := SeqAt.RcAt.lists (A := X.A) (e := f) p1.isList p2.isList (by simp [l1, l2, hl]) (by omega) (fun j h1 h2 => by
            rw [List.size_toArray] at h1 h2
            have := hf j h1 h2
            simpa using this)
          rw [l1, l2, hl] at hbb
          simp at hbb
          rw [show b = (List.range i1.toArray.size).all f by rw [← hbb]; simp [l1, hl]]
          exact h3
        · rename_i hl
          cases hb'
          exact SeqAt.RcAt.lists_lengths p1.isList p2.isList (by simp [l1, l2, hl]) (by omega)
  exact key _ _ _ _ ⟨.bl b, H, I, rfl, q⟩
theorem op_neB (hu : X.A.units + 64 < cLine) : OpR X (compareOp .NotEq) (rEqB X.K true) := by
  intro pins s σ H x y v u Q I rx ry h
  obtain ⟨own, mu, d, e, b, hd, he, hb, q⟩ := h
  obtain ⟨hm, hb'⟩ := eqD_some hb
  have key : SeqAt.RcNeAt X.A s v u (!b) := by
    cases hd with
    | non =>
      cases rx
      cases he with
      | non => simp only [eqO] at hb'; cases hb'; cases ry; exact SeqAt.RcNeAt.none_none
      | bl c => simp [eqO, kindD] at hb'; subst hb'; cases ry; exact SeqAt.RcNeAt.none_bool _
      | int i => simp [eqO, kindD] at hb'; subst hb'; obtain ⟨t, rfl⟩ := ry; exact SeqAt.RcNeAt.none_int i t
      | str i => simp [eqO, kindD] at hb'; subst hb'; obtain ⟨t, rfl⟩ := ry; exact SeqAt.RcNeAt.none_str i t
      | tup qq rr => simp [eqO, kindD] at hb'; subst hb'; cases ry; obtain ⟨i2, r2, p2, _⟩ := I.tuple qq; exact SeqAt.RcNeAt.none_tuple (tupI p2) (by omega)
      | lst qq rr => simp [eqO, kindD] at hb'; subst hb'; cases ry; obtain ⟨i2, r2, p2, _⟩ := I.list qq; exact SeqAt.RcNeAt.none_list p2.isList (by omega)
    | bl a =>
      cases rx
      cases he with
      | non => simp [eqO, kindD] at hb'; subst hb'; cases ry; exact SeqAt.RcNeAt.bool_none _
      | bl c => simp only [eqO] at hb'; cases hb'; cases ry; exact SeqAt.RcNeAt.bool_bool _ _
      | int i => simp only [eqO] at hb'; cases hb'; obtain ⟨t, rfl⟩ := ry; exact SeqAt.RcNeAt.bool_int a i t
      | str i => simp [eqO, kindD] at hb'; subst hb'; obtain ⟨t, rfl⟩ := ry; exact SeqAt.RcNeAt.bool_str a i t
      | tup qq rr => simp [eqO, kindD] at hb'; subst hb'; cases ry; obtain ⟨i2, r2, p2, _⟩ := I.tuple qq; exact SeqAt.RcNeAt.bool_tuple _ (tupI p2) (by omega)
      | lst qq rr => simp [eqO, kindD] at hb'; subst hb'; cases ry; obtain ⟨i2, r2, p2, _⟩ := I.list qq; exact SeqAt.RcNeAt.bool_list _ p2.isList (by omega)
    | int a =>
      obtain ⟨t0, rfl⟩ := rx
      cases he with
      | non => simp [eqO, kindD] at hb'; subst hb'; cases ry; exact SeqAt.RcNeAt.int_none _ _
      | bl c => simp only [eqO] at hb'; cases hb'; cases ry; exact SeqAt.RcNeAt.int_bool _ _ _
      | int i => simp only [eqO] at hb'; cases hb'; obtain ⟨t, rfl⟩ := ry; exact SeqAt.RcNeAt.int_int a t0 i t
      | str i => simp [eqO, kindD] at hb'; subst hb'; obtain ⟨t, rfl⟩ := ry; exact SeqAt.RcNeAt.int_str a t0 i t
      | tup qq rr => simp [eqO, kindD] at hb'; subst hb'; cases ry; obtain ⟨i2, r2, p2, _⟩ := I.tuple qq; exact SeqAt.RcNeAt.int_tuple _ _ (tupI p2) (by omega)
      | lst qq rr => simp [eqO, kindD] at hb'; subst hb'; cases ry; obtain ⟨i2, r2, p2, _⟩ := I.list qq; exact SeqAt.RcNeAt.int_list _ _ p2.isList (by omega)
    | str a =>
      obtain ⟨t0, rfl⟩ := rx
      cases he with
      | non => simp [eqO, kindD] at hb'; subst hb'; cases ry; exact SeqAt.RcNeAt.str_none _ _
      | bl c => simp [eqO, kindD] at hb'; subst hb'; cases ry; exact SeqAt.RcNeAt.str_bool _ _ _
      | int i => simp [eqO, kindD] at hb'; subst hb'; obtain ⟨t, rfl⟩ := ry; exact SeqAt.RcNeAt.str_int a t0 i t
      | str i => simp only [eqO] at hb'; cases hb'; obtain ⟨t, rfl⟩ := ry; exact SeqAt.RcNeAt.str_str a t0 i t
      | tup qq rr => simp [eqO, kindD] at hb'; subst hb'; cases ry; obtain ⟨i2, r2, p2, _⟩ := I.tuple qq; exact SeqAt.RcNeAt.str_tuple _ _ (tupI p2) (by omega)
      | lst qq rr => simp [eqO, kindD] at hb'; subst hb'; cases ry; obtain ⟨i2, r2, p2, _⟩ := I.list qq; exact SeqAt.RcNeAt.str_list _ _ p2.isList (by omega)
    | @tup a1 vs1 xs q1 r1 =>
      cases rx
      obtain ⟨i1, rr1, p1, _⟩ := I.tuple q1
      cases he with
      | non => simp [eqO, kindD] at hb'; subst hb'; cases ry; exact SeqAt.RcNeAt.tuple_none (tupI p1) (by omega)
      | bl c => simp [eqO, kindD] at hb'; subst hb'; cases ry; exact SeqAt.RcNeAt.tuple_bool _ (tupI p1) (by omega)
      | int i => simp [eqO, kindD] at hb'; subst hb'; obtain ⟨t, rfl⟩ := ry; exact SeqAt.RcNeAt.tuple_int _ _ (tupI p1) (by omega)
      | str i => simp [eqO, kindD] at hb'; subst hb'; obtain ⟨t, rfl⟩ := ry; exact SeqAt.RcNeAt.tuple_str _ _ (tupI p1) (by omega)
      | lst qq rr => simp [eqO, kindD] at hb'; subst hb'; cases ry; obtain ⟨i2, r2, p2, _⟩ := I.list qq; exact SeqAt.RcNeAt.tuple_list (tupI p1) p2.isList (by omega)
      | @tup a2 vs2 ys q2 r2 =>
        cases ry
        obtain ⟨i2, rr2, p2, _⟩ := I.tuple q2
        simp only [eqO] at hb'
        simp only [dep] at hm
        obtain ⟨f, hf, hbb⟩ := eq_oks I xs ys X.A.in1 vs1 vs2 i1 i2 b r1 r2 rr1 rr2 hb' (by show X.A.units + 1 + _ < _; omega)
        rw [← hbb]
        have h3 := SeqAt.RcNeAt.tuples (A := X.A) (e := f) (tupI p1) (tupI p2) (by omega) (fun j h1 h2 => by
          rw [List.size_toArray] at h1 h2
          have := hf j h1 h2
          simpa using this)
        simpa using h3
    | @lst a1 vs1 xs q1 r1 =>
      cases rx
      obtain ⟨i1, rr1, p1, _⟩ := I.list q1
      cases he with
      | non => simp [eqO, kindD] at hb'; subst hb'; cases ry; exact SeqAt.RcNeAt.list_none p1.isList (by omega)
      | bl c => simp [eqO, kindD] at hb'; subst hb'; cases ry; exact SeqAt.RcNeAt.list_bool _ p1.isList (by omega)
      | int i => simp [eqO, kindD] at hb'; subst hb'; obtain ⟨t, rfl⟩ := ry; exact SeqAt.RcNeAt.list_int _ _ p1.isList (by omega)
      | str i => simp [eqO, kindD] at hb'; subst hb'; obtain ⟨t, rfl⟩ := ry; exact SeqAt.RcNeAt.list_str _ _ p1.isList (by omega)
      | tup qq rr => simp [eqO, kindD] at hb'; subst hb'; cases ry; obtain ⟨i2, r2, p2, _⟩ := I.tuple qq; exact SeqAt.RcNeAt.list_tuple p1.isList (tupI p2) (by omega)
      | @lst a2 vs2 ys q2 r2 =>
        cases ry
        obtain ⟨i2, rr2, p2, _⟩ := I.list q2
        have l1 : i1.length = xs.length := rr1.length.symm.trans r1.length
        have l2 : i2.length = ys.length := rr2.length.symm.trans r2.length
        simp only [eqO] at hb'
        simp only [dep] at hm
        split at hb'
        · rename_i hl
          obtain ⟨f, hf, hbb⟩ := eq_oks I xs ys X.A.in1 vs1 vs2 i1 i2 b r1 r2 rr1 rr2 hb' (by show X.A.units + 1 + _ < _; omega)
          have h3 := SeqAt.RcNeAt.lists (A := X.A) (e := f) p1.isList p2.isList (by simp [l1, l2, hl]) (by omega) (fun j h1 h2 => by
            rw [List.size_toArray] at h1 h2
            have := hf j h1 h2
            simpa using this)
          rw [l1, l2, hl] at hbb
          simp at hbb
          rw [show b = (List.range i1.toArray.size).all f by rw [← hbb]; simp [l1, hl]]
          exact h3
        · rename_i hl
          cases hb'
          exact SeqAt.RcNeAt.lists_lengths p1.isList p2.isList (by simp [l1, l2, hl]) (by omega)
  exact key _ _ _ _ ⟨.bl (!b), H, I, rfl, q⟩
end
end DL

set_option Elab.async false
set_option linter.all false
set_option maxRecDepth 100000
set_option maxHeartbeats 4000000
/-! the deep layer: dicts of both kinds -/
namespace DL
open PySem PySem.Spec PyProof.Rows L2

mutual
theorem kOf_kD : ∀ {d : D} {k : TK}, keyOf d = some k → d = kD k
  | .int i, k, h => by simp only [keyOf] at h; cases h; rfl
  | .str i, k, h => by simp only [keyOf] at h; cases h; rfl
  | .tup l, k, h => by
    simp only [keyOf] at h
    obtain ⟨ks, e, rfl⟩ := Option.map_eq_some_iff.mp h
    simp only [kD, ksOf_kD e]
  | .non, k, h => by simp [keyOf] at h
  | .bl _, k, h => by simp [keyOf] at h
  | .lst _, k, h => by simp [keyOf] at h
  | .dct _ _, k, h => by simp [keyOf] at h
  | .obj _ _ _, k, h => by simp [keyOf] at h
  | .ref _, k, h => by simp [keyOf] at h
  | .fn _, k, h => by simp [keyOf] at h
  | .exc _ _ _, k, h => by simp [keyOf] at h
theorem ksOf_kD : ∀ {d : List D} {k : List TK}, keysOf d = some k → d = kDs k
  | [], k, h => by simp only [keysOf] at h; cases h; rfl
  | x :: xs, k, h => by
    simp only [keysOf] at h
    cases e1 : keyOf x with
    | none => rw [e1] at h; cases h
    | some k1 =>
      cases e2 : keysOf xs with
      | none => rw [e1, e2] at h; cases h
      | some k2 =>
        rw [e1, e2] at h
        cases h
        simp only [kDs, ← kOf_kD e1, ← ksOf_kD e2]
end
mutual
theorem keyOf_kD : ∀ k : TK, keyOf (kD k) = some k
  | .a (.inl i) => rfl
  | .a (.inr i) => rfl
  | .t l => by simp only [kD, keyOf, keysOf_kDs l, Option.map_some]
theorem keysOf_kDs : ∀ k : List TK, keysOf (kDs k) = some k
  | [] => rfl
  | k :: ks => by simp only [kDs, keysOf, keyOf_kD k, keysOf_kDs ks]
end
theorem kOf_dOf {d : D} {k : Key} (h : keyOf d = some (.a k)) : d = dOf k := by
  rw [kOf_kD h]; rfl
theorem keyOf_dOf (k : Key) : keyOf (dOf k) = some (.a k) := keyOf_kD (.a k)
section
variable [Wd]
theorem RV.key {K : PySem.W.Frag} {own : Addr → Prop} {mu : List Addr} {H : Hp} {v : V} {k : Key} (h : RV K own mu H v (dOf k)) : v = kV k := by
  cases k <;> cases h <;> rfl
theorem RV.key' {K : PySem.W.Frag} {own : Addr → Prop} {mu : List Addr} {H : Hp} {d : D} {k : Key} (h : RV K own mu H (kV k) d) : d = dOf k := by
  cases k <;> cases h <;> rfl
/-- a dict's table -/
theorem dlook_ok {K : PySem.W.Frag} {own : Addr → Prop} {mu : List Addr} {H : Hp} {k : Key} : ∀ {kvs : List (Key × V)} {ks vs : List D}, RVs K own mu H (kvs.map fun p => kV p.1) ks → RVs K own mu H (kvs.map (·.2)) vs →
    (∃ d v, dlook ks vs (.a k) = some d ∧ valV kvs k = some v ∧ RV K own mu H v d) ∨ (dlook ks vs (.a k) = none ∧ valV kvs k = none)
  | [], _, _, r, r' => by cases r; cases r'; exact .inr ⟨rfl, rfl⟩
  | (k0, v0) :: kvs, _, _, r, r' => by
    cases r with
    | cons h t =>
      cases r' with
      | cons h' t' =>
        have e := h.key'
        subst e
        by_cases hk : k0 = k
        · subst hk
          refine .inl ⟨_, v0, by simp [dlook, keyOf_dOf], valV_pos rfl, h'⟩
        · rw [valV_neg hk]
          have hk' : ¬ (TK.a k0 = TK.a k) := fun e => hk (by injection e)
          simp only [dlook, keyOf_dOf, Option.some.injEq, if_neg hk']
          exact dlook_ok t t'
theorem RV.ofKey {K : PySem.W.Frag} {own : Addr → Prop} {mu : List Addr} {H : Hp} (k : Key) : RV K own mu H (kV k) (dOf k) := by
  cases k with
  | inl i => exact .int i
  | inr x => exact .str x
theorem dset_ok {K : PySem.W.Frag} {own : Addr → Prop} {mu : List Addr} {H : Hp} {k : Key} {v : V} {d : D} (hv : RV K own mu H v d) : ∀ {kvs : List (Key × V)} {ks vs : List D}, RVs K own mu H (kvs.map fun p => kV p.1) ks → RVs K own mu H (kvs.map (·.2)) vs →
    RVs K own mu H ((kvs.map fun kv => if kv.1 = k then (kv.1, v) else kv).map (·.2)) (dset ks vs (.a k) d)
  | [], _, _, r, r' => by cases r; cases r'; exact .nil
  | (k0, v0) :: kvs, _, _, r, r' => by
    cases r with
    | cons h t =>
      cases r' with
      | cons h' t' =>
        have e := h.key'
        subst e
        simp only [List.map_cons, dset, keyOf_dOf, Option.some.injEq]
        by_cases e : k0 = k
        · rw [if_pos e, if_pos (by rw [e])]
          exact .cons hv (dset_ok hv t t')
        · rw [if_neg e, if_neg (fun e' => e (by injection e'))]
          exact .cons h' (dset_ok hv t t')
theorem dput_ok {K : PySem.W.Frag} {own : Addr → Prop} {mu : List Addr} {H : Hp} {k : Key} {v : V} {d : D} {kvs : List (Key × V)} {ks vs : List D} (hv : RV K own mu H v d) (r : RVs K own mu H (kvs.map fun p => kV p.1) ks) (r' : RVs K own mu H (kvs.map (·.2)) vs) :
    RVs K own mu H ((putK kvs k v).map fun p => kV p.1) (dput ks vs (.a k) d).1 ∧ RVs K own mu H ((putK kvs k v).map (·.2)) (dput ks vs (.a k) d).2 := by
  have ea := valV_any k kvs
  have e : (dlook ks vs (.a k)).isSome = (valV kvs k).isSome := by
    rcases dlook_ok (k := k) r r' with ⟨d1, v1, h1, h2, _⟩ | ⟨h1, h2⟩ <;> rw [h1, h2] <;> rfl
  unfold putK dput
  rw [ea, e]
  by_cases hs : (valV kvs k).isSome = true
  · rw [if_pos hs, if_pos hs]
    refine ⟨?_, dset_ok hv r r'⟩
    have e2 : ((kvs.map fun kv => if kv.1 = k then (kv.1, v) else kv).map fun p => kV p.1) = kvs.map fun p => kV p.1 := by
      rw [List.map_map]
      refine List.map_congr_left fun p _ => ?_
      show kV (if p.1 = k then (p.1, v) else p).1 = kV p.1
      split <;> rfl
    rw [e2]
    exact r
  · rw [if_neg hs, if_neg hs, List.map_append, List.map_append]
    exact ⟨r.append (.cons (RV.ofKey k) .nil), r'.append (.cons hv .nil)⟩
end

/-! ### keys that are tuples -/
section
variable [Wd] {X : Cx} {pins : List (Addr × Obj)} {σ : L2.St} {H : Hp} {s : Shared} {own : Addr → Prop} {mu : List Addr}
mutual
theorem RV.kis (I : Inv X pins σ H s) : ∀ {k : TK} {v : V} {u : Value}, RV X.K own mu H v (kD k) → RelV v u → KIs s.heap k u
  | .a (.inl i), v, u, h, r => by
    have e := RV.int_inv (i := i) h
    subst e
    obtain ⟨t, rfl⟩ := r
    simp only [KIs]
    exact keyIs_int i t
  | .a (.inr i), v, u, h, r => by
    have e := RV.str_inv (i := i) h
    subst e
    obtain ⟨t, rfl⟩ := r
    simp only [KIs]
    exact keyIs_str i t
  | .t l, v, u, h, r => by
    simp only [kD] at h
    obtain ⟨a, vs, rfl, ht, rs⟩ := h.tup_inv
    cases r
    obtain ⟨its, rv, ⟨o, e1, e2, n, e3⟩, _⟩ := I.tuple ht.seq
    simp only [KIs]
    exact ⟨a, o, its.toArray, n, rfl, e1, e2, e3, by simpa using RVs.kall I rs rv⟩
theorem RVs.kall (I : Inv X pins σ H s) : ∀ {l : List TK} {vs : List V} {us : List Value}, RVs X.K own mu H vs (kDs l) → Vals vs us → KAll s.heap l us
  | [], vs, us, h, r => by
    simp only [kDs] at h
    cases h
    cases r
    simp only [KAll]
  | k :: l, vs, us, h, r => by
    simp only [kDs] at h
    cases h with
    | cons h1 h2 =>
      cases r with
      | cons r1 r2 =>
        simp only [KAll]
        exact ⟨_, _, rfl, RV.kis I h1 r1, RVs.kall I h2 r2⟩
end
theorem dictH (hw : X.w = Wd.w) (I : Inv X pins σ H s) {a : Addr} {xs : List (TK × Addr × Value)} (hr : Rd H a (dN a xs)) (rk : RVs X.K own mu H (xs.map fun x => .ref x.2.1) (xs.map fun x => kD x.1)) (hx : ∀ x ∈ xs, tdep x.1 ≤ 8 ∧ ∃ l, x.1 = .t l) :
    xs.length ≤ sizeLine ∧ (a == sysModules) = false ∧ s.heap.DictOfH (nkKind X.prog X.w) a xs := by
  obtain ⟨⟨h1, h2, h3, o, es, ep, h4, h5, h6, h7⟩, _⟩ := hr.ok I.hok
  refine ⟨h1, h2, o, es, ep, h4, h5, h6, ?_, fun x hm => ⟨(hx x hm).1, ?_⟩, h3⟩
  · rw [h7, ← hw]
    rfl
  · obtain ⟨i, hi⟩ := List.mem_iff_getElem?.mp hm
    obtain ⟨v, e1, e2⟩ := rk.get (i := i) (d := kD x.1) (by rw [List.getElem?_map, hi]; rfl)
    rw [List.getElem?_map, hi] at e1
    cases e1
    exact RV.kis I e2 rfl
theorem DctC.nil {K : PySem.W.Frag} {a : Addr} {u : HO} {kv vv : List V} (c : DctC a u kv vv []) (r : RVs K own mu H kv []) : u = .dK [] := by
  generalize hk : ([] : List D) = ks at c
  cases c with
  | k kvs =>
    cases kvs with
    | nil => rfl
    | cons p kvs => cases r
  | t xs vv hn _ _ =>
    cases xs with
    | nil => exact absurd rfl hn
    | cons x xs => cases hk
theorem dictH0 (I : Inv X pins σ H s) {a : Addr} (hr : Rd H a (.dK [])) : (a == sysModules) = false ∧ s.heap.DictOfH (nkKind X.prog X.w) a [] := by
  obtain ⟨_, h2, vs, r, o, es, ep, h4, h5, h6, _, h7, _⟩ := hr.ok I.hok
  cases r
  have : es.toList = [] := by
    cases h8 : es.toList with
    | nil => rfl
    | cons e r => rw [h8] at h7; cases h7
  exact ⟨h2, o, es, ep, h4, h5, h6, by rw [this]; rfl, (fun x hm => by cases hm), List.nodup_nil⟩
theorem atK {K : PySem.W.Frag} {k : TK} : ∀ {xs : List (TK × Addr × Value)} {vv : List V} {ds : List D}, Vals vv (xs.map (·.2.2)) → RVs K own mu H vv ds →
    (∃ d v b u, dlook (xs.map fun x => kD x.1) ds k = some d ∧ atKey xs k = some (b, u) ∧ RelV v u ∧ RV K own mu H v d) ∨ (dlook (xs.map fun x => kD x.1) ds k = none ∧ atKey xs k = none)
  | [], _, _, r, r' => by
    cases r
    cases r'
    exact .inr ⟨rfl, rfl⟩
  | x :: xs, _, _, r, r' => by
    cases r with
    | cons h t =>
      cases r' with
      | cons h' t' =>
        by_cases e : x.1 = k
        · refine .inl ⟨_, _, x.2.1, x.2.2, ?_, ?_, h, h'⟩
          · simp [dlook, keyOf_kD, e]
          · simp [atKey, List.find?_cons, e]
        · rcases atK (k := k) t t' with ⟨d, v, b, u, q1, q2, q3, q4⟩ | ⟨q1, q2⟩
          · refine .inl ⟨d, v, b, u, ?_, ?_, q3, q4⟩
            · simpa [dlook, keyOf_kD, e] using q1
            · simpa [atKey, List.find?_cons, e] using q2
          · refine .inr ⟨?_, ?_⟩
            · simpa [dlook, keyOf_kD, e] using q1
            · simpa [atKey, List.find?_cons, e] using q2
theorem putAt_ok {K : PySem.W.Frag} {k : TK} {v : V} {u : Value} {d : D} (rv : RelV v u) (rd : RV K own mu H v d) : ∀ {xs : List (TK × Addr × Value)} {vv : List V} {ds : List D}, Vals vv (xs.map (·.2.2)) → RVs K own mu H vv ds →
    ∃ ww, Vals ww ((xs.map (putAt k u)).map (·.2.2)) ∧ RVs K own mu H ww (dset (xs.map fun x => kD x.1) ds k d)
  | [], _, _, r, r' => by
    cases r
    cases r'
    exact ⟨[], .nil, .nil⟩
  | x :: xs, _, _, r, r' => by
    cases r with
    | @cons v0 _ _ _ h t =>
      cases r' with
      | cons h' t' =>
        obtain ⟨ww, q1, q2⟩ := putAt_ok (k := k) rv rd t t'
        by_cases e : x.1 = k
        · refine ⟨v :: ww, ?_, ?_⟩
          · simp only [List.map_cons, putAt, if_pos e]
            exact .cons rv (by simpa [putAt] using q1)
          · simp only [List.map_cons, dset, keyOf_kD, Option.some.injEq, if_pos e]
            exact .cons rd q2
        · refine ⟨v0 :: ww, ?_, ?_⟩
          · simp only [List.map_cons, putAt, if_neg e]
            exact .cons h (by simpa [putAt] using q1)
          · simp only [List.map_cons, dset, keyOf_kD, Option.some.injEq, if_neg e]
            exact .cons h' q2
end

/-! ### what is done with a dict -/
/-- the dict at a, its key y -/
structure DAsk [Wd] (X : Cx) (own : Addr → Prop) (mu : List Addr) (H : Hp) (a : Addr) (u : HO) (kv vv : List V) (ks ds : List D) (vy : V) (k : TK) : Prop where
  c : DctC a u kv vv ks
  rk : RVs X.K own mu H kv ks
  rv : RVs X.K own mu H vv ds
  ry : RV X.K own mu H vy (kD k)
  ok : okK ks k = true
section
variable [Wd] {X : Cx} {pins : List (Addr × Obj)} {σ : L2.St} {H : Hp} {s : Shared} {own : Addr → Prop} {mu : List Addr} {a : Addr} {u : HO} {kv vv : List V} {ks ds : List D} {vy : V} {k : TK} {uy : Value} {A : Around} {E : Value → Shared → Prop}
/-- a key that is a tuple: where it is looked for -/
theorem DAsk.tup (h : DAsk X own mu H a u kv vv ks ds vy k) {l : List TK} (e : k = .t l) : ∃ b, vy = .ref b ∧ tdep k ≤ 8 ∧ ((u = .dK [] ∧ ks = [] ∧ ds = []) ∨ ∃ xs, xs ≠ [] ∧ u = dN a xs ∧ kv = xs.map (fun x => .ref x.2.1) ∧ Vals vv (xs.map (·.2.2)) ∧ (∀ x ∈ xs, tdep x.1 ≤ 8 ∧ ∃ l, x.1 = .t l) ∧ ks = xs.map fun x => kD x.1) := by
  subst e
  have hy := h.ry
  simp only [kD] at hy
  obtain ⟨b, vs, rfl, _, _⟩ := hy.tup_inv
  have ok := h.ok
  simp only [okK, Bool.and_eq_true, decide_eq_true_eq] at ok
  refine ⟨b, rfl, ok.1, ?_⟩
  have hk := h.rk
  have hv := h.rv
  cases h.c with
  | k kvs =>
    left
    cases kvs with
    | nil =>
      cases hk
      cases hv
      exact ⟨rfl, rfl, rfl⟩
    | cons p kvs =>
      exfalso
      cases hk with
      | cons h1 _ =>
        have e := h1.key'
        subst e
        have := ok.2
        simp only at this
        cases p with
        | mk p1 p2 => cases p1 <;> simp [dOf, sortD] at this
  | t xs vv hn hvv hx => exact .inr ⟨xs, hn, rfl, rfl, hvv, hx, rfl⟩
theorem DAsk.atom (h : DAsk X own mu H a u kv vv ks ds vy k) {k0 : Key} (e : k = .a k0) : ∃ kvs : List (Key × V), u = .dK kvs ∧ vy = kV k0 ∧ RVs X.K own mu H (kvs.map fun p => kV p.1) ks ∧ RVs X.K own mu H (kvs.map (·.2)) ds := by
  subst e
  obtain ⟨kvs, rfl, rfl, rfl⟩ := h.c.atoms h.ok
  exact ⟨kvs, rfl, RV.key h.ry, h.rk, h.rv⟩
theorem nkey (I : Inv X pins σ H s) {b : Addr} (h : RV X.K own mu H (.ref b) (kD k)) (hd : tdep k ≤ 8) : (nkKind X.prog X.w).is s.heap k b := ⟨hd, RV.kis I h rfl⟩
theorem dd_getItem {d : D} {Q : Value → Shared → Prop} (hw : X.w = Wd.w) (hu : A.units + 64 < cLine) (I : Inv X pins σ H s) (hr : Rd H a u) (h : DAsk X own mu H a u kv vv ks ds vy k) (ry : RelV vy uy) (hl : dlook ks ds k = some d)
    (q : ∀ v w' s', Inv X pins σ H s' → RelV v w' → RV X.K own mu H v d → Q w' s') : wpAny (model X.prog X.w) A (getItem (.ref a) uy) Q E s := by
  cases k with
  | a k0 =>
    obtain ⟨kvs, rfl, rfl, r1, r2⟩ := h.atom rfl
    rcases dlook_ok (k := k0) r1 r2 with ⟨d1, v1, h1, h2, h3⟩ | ⟨h1, h2⟩
    · rw [hl] at h1
      cases h1
      exact d_getItem (by omega) I (.inl ⟨kvs, k0, hr, rfl, h2.symm⟩) ry fun w' s' I' rw' => q v1 w' s' I' rw' h3
    · rw [hl] at h1; cases h1
  | t l =>
    obtain ⟨b, rfl, hd, ⟨rfl, rfl, rfl⟩ | ⟨xs, hn, rfl, rfl, hvv, hx, rfl⟩⟩ := h.tup rfl
    · cases hl
    · cases ry
      obtain ⟨_, _, dh⟩ := dictH hw I hr h.rk hx
      rcases atK (k := .t l) hvv h.rv with ⟨d1, v1, b1, u1, h1, h2, h3, h4⟩ | ⟨h1, h2⟩
      · rw [hl] at h1
        cases h1
        exact wpAny_getItem_heap (knd := nkKind X.prog X.w) (by show A.units + 1 + 8 < cLine; omega) (nkey I h.ry hd) dh h2 (q v1 _ _ (I.tok _) h3 h4)
      · rw [hl] at h1; cases h1
theorem dd_in {Q : Value → Shared → Prop} (hw : X.w = Wd.w) (hu : A.units + 64 < cLine) (I : Inv X pins σ H s) (hr : Rd H a u) (h : DAsk X own mu H a u kv vv ks ds vy k) (ry : RelV vy uy)
    (q : ∀ s', Inv X pins σ H s' → Q (.bool (dlook ks ds k).isSome) s') : wpAny (model X.prog X.w) A (compareOp .In uy (.ref a)) Q E s := by
  cases k with
  | a k0 =>
    obtain ⟨kvs, rfl, rfl, r1, r2⟩ := h.atom rfl
    refine d_in (by omega) I (.inl ⟨kvs, k0, hr, rfl, rfl⟩) ry fun s' I' => ?_
    have : (valV kvs k0).isSome = (dlook ks ds (.a k0)).isSome := by
      rcases dlook_ok (k := k0) r1 r2 with ⟨d1, v1, e1, e2, _⟩ | ⟨e1, e2⟩ <;> rw [e1, e2] <;> rfl
    rw [this]
    exact q s' I'
  | t l =>
    obtain ⟨b, rfl, hd, ⟨rfl, rfl, rfl⟩ | ⟨xs, hn, rfl, rfl, hvv, hx, rfl⟩⟩ := h.tup rfl
    · cases ry
      obtain ⟨hs, dh⟩ := dictH0 I hr
      exact wpAny_in_heap (knd := nkKind X.prog X.w) (by show A.units + 1 + 8 < cLine; omega) (nkey I h.ry hd) hs dh (q _ (I.tok _))
    · cases ry
      obtain ⟨_, hs, dh⟩ := dictH hw I hr h.rk hx
      refine wpAny_in_heap (knd := nkKind X.prog X.w) (by show A.units + 1 + 8 < cLine; omega) (nkey I h.ry hd) hs dh ?_
      have : (atKey xs (.t l)).isSome = (dlook (xs.map fun x => kD x.1) ds (.t l)).isSome := by
        rcases atK (k := .t l) hvv h.rv with ⟨d1, v1, b1, u1, h1, h2, h3, h4⟩ | ⟨h1, h2⟩ <;> rw [h1, h2] <;> rfl
      rw [this]
      exact q _ (I.tok _)
theorem dd_notIn {Q : Value → Shared → Prop} (hw : X.w = Wd.w) (hu : A.units + 64 < cLine) (I : Inv X pins σ H s) (hr : Rd H a u) (h : DAsk X own mu H a u kv vv ks ds vy k) (ry : RelV vy uy)
    (q : ∀ s', Inv X pins σ H s' → Q (.bool (!(dlook ks ds k).isSome)) s') : wpAny (model X.prog X.w) A (compareOp .NotIn uy (.ref a)) Q E s := by
  cases k with
  | a k0 =>
    obtain ⟨kvs, rfl, rfl, r1, r2⟩ := h.atom rfl
    refine d_notIn (by omega) I (.inl ⟨kvs, k0, hr, rfl, rfl⟩) ry fun s' I' => ?_
    have : (valV kvs k0).isSome = (dlook ks ds (.a k0)).isSome := by
      rcases dlook_ok (k := k0) r1 r2 with ⟨d1, v1, e1, e2, _⟩ | ⟨e1, e2⟩ <;> rw [e1, e2] <;> rfl
    rw [this]
    exact q s' I'
  | t l =>
    obtain ⟨b, rfl, hd, ⟨rfl, rfl, rfl⟩ | ⟨xs, hn, rfl, rfl, hvv, hx, rfl⟩⟩ := h.tup rfl
    · cases ry
      obtain ⟨hs, dh⟩ := dictH0 I hr
      exact wpAny_notIn_heap (knd := nkKind X.prog X.w) (by show A.units + 1 + 8 < cLine; omega) (nkey I h.ry hd) hs dh (q _ (I.tok _))
    · cases ry
      obtain ⟨_, hs, dh⟩ := dictH hw I hr h.rk hx
      refine wpAny_notIn_heap (knd := nkKind X.prog X.w) (by show A.units + 1 + 8 < cLine; omega) (nkey I h.ry hd) hs dh ?_
      have : (atKey xs (.t l)).isSome = (dlook (xs.map fun x => kD x.1) ds (.t l)).isSome := by
        rcases atK (k := .t l) hvv h.rv with ⟨d1, v1, b1, u1, h1, h2, h3, h4⟩ | ⟨h1, h2⟩ <;> rw [h1, h2] <;> rfl
      rw [this]
      exact q _ (I.tok _)
/-- d.get(y), d.get(y, x) -/
theorem dd_get {vx : V} {ux : Value} {us : List Value} {dflt : D} {Q : Value → Shared → Prop} (hw : X.w = Wd.w) (hu : X.A.units + 64 < cLine) (I : Inv X pins σ H s) (hr : Rd H a u) (h : DAsk X own mu H a u kv vv ks ds vy k) (ry : RelV vy uy)
    (hus : (us = [] ∧ dflt = .non ∧ vx = .non ∧ ux = .none) ∨ us = [ux]) (rx : RelV vx ux) (rdx : RV X.K own mu H vx dflt)
    (q : ∀ v w' s', Inv X pins σ H s' → RelV v w' → RV X.K own mu H v ((dlook ks ds k).getD dflt) → Q w' s') : wpAny (model X.prog X.w) X.A (call (.builtin "dict.get") (.ref a :: uy :: us)) Q E s := by
  cases k with
  | a k0 =>
    obtain ⟨kvs, rfl, rfl, r1, r2⟩ := h.atom rfl
    rcases hus with ⟨rfl, rfl, rfl, rfl⟩ | rfl
    · refine d_get1 (by omega) I (.inl ⟨kvs, k0, hr, rfl, rfl⟩) ry fun w' s' I' rw2 => ?_
      rcases dlook_ok (k := k0) r1 r2 with ⟨d1, v1, h1, h2, h3⟩ | ⟨h1, h2⟩
      · rw [h2] at rw2
        exact q v1 w' s' I' rw2 (by rw [h1]; exact h3)
      · rw [h2] at rw2
        exact q .non w' s' I' rw2 (by rw [h1]; exact .non)
    · refine d_get2 (by omega) I (.inl ⟨kvs, k0, hr, rfl, rfl⟩) ry rx fun w' s' I' rw2 => ?_
      rcases dlook_ok (k := k0) r1 r2 with ⟨d1, v1, h1, h2, h3⟩ | ⟨h1, h2⟩
      · rw [h2] at rw2
        exact q v1 w' s' I' rw2 (by rw [h1]; exact h3)
      · rw [h2] at rw2
        exact q vx w' s' I' rw2 (by rw [h1]; exact rdx)
  | t l =>
    obtain ⟨b, rfl, hd, hc⟩ := h.tup rfl
    cases ry
    have key := nkey I h.ry hd
    have fin : ∀ (xs : List (TK × Addr × Value)), (a == sysModules) = false → s.heap.DictOfH (nkKind X.prog X.w) a xs → ((∃ d v b u, dlook ks ds (.t l) = some d ∧ atKey xs (.t l) = some (b, u) ∧ RelV v u ∧ RV X.K own mu H v d) ∨ (dlook ks ds (.t l) = none ∧ atKey xs (.t l) = none)) →
        wpAny (model X.prog X.w) X.A (call (.builtin "dict.get") (.ref a :: .ref b :: us)) Q E s := by
      intro xs hs dh hat
      have tail : Q (((atKey xs (.t l)).map (·.2)).getD ux) { s with toks := s.toks + (nkKind X.prog X.w).draws (.t l) } := by
        rcases hat with ⟨d1, v1, b1, u1, h1, h2, h3, h4⟩ | ⟨h1, h2⟩
        · rw [h2]
          exact q v1 u1 _ (I.tok _) h3 (by rw [h1]; exact h4)
        · rw [h2]
          exact q vx ux _ (I.tok _) rx (by rw [h1]; exact rdx)
      rcases hus with ⟨rfl, rfl, rfl, rfl⟩ | rfl
      · exact call_meetsIn F.slot_dict_get dh.typeIs F.entry_dict_get (F.args_dict_get_2 _ _) (meetsH_dict_get (nkKind X.prog X.w) a b hs) ⟨by show X.A.units + 1 + 8 < cLine; omega, .t l, xs, key, dh, tail⟩
      · exact call_meetsIn F.slot_dict_get dh.typeIs F.entry_dict_get (F.args_dict_get_3 _ _ _) (meetsH_dict_get_default (nkKind X.prog X.w) a b hs ux) ⟨by show X.A.units + 1 + 8 < cLine; omega, .t l, xs, key, dh, tail⟩
    rcases hc with ⟨rfl, rfl, rfl⟩ | ⟨xs, hn, rfl, rfl, hvv, hx, rfl⟩
    · obtain ⟨hs, dh⟩ := dictH0 I hr
      exact fin [] hs dh (.inr ⟨rfl, rfl⟩)
    · obtain ⟨_, hs, dh⟩ := dictH hw I hr h.rk hx
      exact fin xs hs dh (atK hvv h.rv)
/-- d[y] = x -/
theorem dd_set {vx : V} {ux : Value} {x : D} {Q : Unit → Shared → Prop} (hw : X.w = Wd.w) (hu : A.units + 64 < cLine) (I : Inv X pins σ H s) (hr : H a = some u) (h : DAsk X own mu H a u kv vv ks ds vy k) (hl : ks.length < sizeLine) (ry : RelV vy uy) (rx : RelV vx ux) (rdx : RV X.K own mu H vx x)
    (q : ∀ u' kv' vv' s', DctC a u' kv' vv' (dput ks ds k x).1 → RVs X.K own mu H kv' (dput ks ds k x).1 → RVs X.K own mu H vv' (dput ks ds k x).2 → Inv X pins σ (upd H a u') s' → Q () s') : wpAny (model X.prog X.w) A (setItem (.ref a) uy ux) Q E s := by
  cases k with
  | a k0 =>
    obtain ⟨kvs, rfl, rfl, r1, r2⟩ := h.atom rfl
    obtain ⟨q1, q2⟩ := dput_ok (k := k0) rdx r1 r2
    have e : kvs.length = ks.length := by rw [← r1.length, List.length_map]
    exact d_setItem (by omega) I (.inl ⟨kvs, k0, hr, rfl, by omega, rfl⟩) ry rx fun s' I' => q _ _ _ s' (.k _ _) q1 q2 I'
  | t l =>
    obtain ⟨b, rfl, hd, hc⟩ := h.tup rfl
    cases ry
    have key := nkey I h.ry hd
    rcases hc with ⟨rfl, rfl, rfl⟩ | ⟨xs, hn, rfl, rfl, hvv, hx, rfl⟩
    · obtain ⟨hs, dh⟩ := dictH0 I (.inl hr)
      refine wpAny_setItem_heap (knd := nkKind X.prog X.w) (hsz := Nat.zero_le _) (by show A.units + 1 + 8 < cLine; omega) key dh fun h' dh' sb => ?_
      obtain ⟨o, es, ep, e1, e2, e3, e4, _, e5⟩ := dh'
      have ed : (dput [] [] (.t l) x) = ([kD (.t l)], [x]) := rfl
      rw [ed] at q
      refine q (dN a [(.t l, b, ux)]) [.ref b] [vx] _ (.t [(.t l, b, ux)] [vx] (by simp) (.cons rx .nil) (fun y hy => by
        simp only [List.mem_singleton] at hy
        subst hy
        exact ⟨hd, l, rfl⟩)) (.cons h.ry .nil) (.cons rdx .nil) ?_
      refine d_write I (by rw [hr]; exact True.intro) sb ⟨o, e1⟩ ⟨⟨by show 1 ≤ sizeLine; decide, hs, e5, o, es, ep, e1, e2, e3, ?_⟩, ⟨o, e1⟩, ?_⟩
      · rw [e4, ← hw]; rfl
      · rintro h1 h2 ⟨z1, z2, z3, o', es', ep', y1, y2⟩ k
        exact ⟨z1, z2, z3, o', es', ep', k _ y1, y2⟩
    · obtain ⟨hz, hs, dh⟩ := dictH hw I (.inl hr) h.rk hx
      refine wpAny_setItem_heap (knd := nkKind X.prog X.w) (hsz := hz) (by show A.units + 1 + 8 < cLine; omega) key dh fun h' dh' sb => ?_
      obtain ⟨o, es, ep, e1, e2, e3, e4, _, e5⟩ := dh'
      simp only [List.length_map] at hl
      have wr : ∀ ys, ys = storedH xs (.t l) b ux → ys.length ≤ sizeLine → Inv X pins σ (upd H a (dN a ys)) { s with heap := h', toks := s.toks + (nkKind X.prog X.w).draws (.t l) } := by
        rintro ys rfl hys
        refine d_write I (by rw [hr]; exact True.intro) sb ⟨o, e1⟩ ⟨⟨hys, hs, e5, o, es, ep, e1, e2, e3, ?_⟩, ⟨o, e1⟩, ?_⟩
        · rw [e4, ← hw]; rfl
        · rintro h1 h2 ⟨z1, z2, z3, o', es', ep', y1, y2⟩ k
          exact ⟨z1, z2, z3, o', es', ep', k _ y1, y2⟩
      rcases atK (k := .t l) hvv h.rv with ⟨d1, v1, b1, u1, h1, h2, h3, h4⟩ | ⟨h1, h2⟩
      · have ed : dput (xs.map fun x => kD x.1) ds (.t l) x = (xs.map (fun x => kD x.1), dset (xs.map fun x => kD x.1) ds (.t l) x) := by
          unfold dput
          rw [h1]
          simp
        rw [ed] at q
        obtain ⟨ww, w1, w2⟩ := putAt_ok (k := .t l) rx rdx hvv h.rv
        have ek : ∀ {β : Type} (f : TK × Addr → β), (xs.map (putAt (.t l) ux)).map (fun y => f (y.1, y.2.1)) = xs.map fun y => f (y.1, y.2.1) := by
          intro β f
          rw [List.map_map]
          refine List.map_congr_left fun y _ => ?_
          show f ((putAt (.t l) ux y).1, (putAt (.t l) ux y).2.1) = _
          unfold putAt
          split <;> rfl
        have e1k := ek (fun p => kD p.1)
        have e2k := ek (fun p => V.ref p.2)
        have es' := storedH_old h2 b ux
        refine q (dN a (xs.map (putAt (.t l) ux))) (xs.map fun x => .ref x.2.1) ww _ ?_ h.rk w2 (wr _ es'.symm (by rw [List.length_map]; exact hz))
        have := DctC.t (a := a) (xs.map (putAt (.t l) ux)) ww (by simpa using hn) w1 (fun y hy => by
          obtain ⟨z, hz1, hz2⟩ := List.mem_map.mp hy
          have := hx z hz1
          have ey : y.1 = z.1 := by
            rw [← hz2]
            unfold putAt
            split <;> rfl
          rw [ey]
          exact this)
        rw [e1k, e2k] at this
        exact this
      · have ed : dput (xs.map fun x => kD x.1) ds (.t l) x = (xs.map (fun x => kD x.1) ++ [kD (.t l)], ds ++ [x]) := by
          unfold dput
          rw [h1]
          simp
        rw [ed] at q
        have es' := storedH_new h2 b ux
        refine q (dN a (xs ++ [(.t l, b, ux)])) (xs.map (fun x => .ref x.2.1) ++ [.ref b]) (vv ++ [vx]) _ ?_ (h.rk.append (.cons h.ry .nil)) (h.rv.append (.cons rdx .nil)) (wr _ es'.symm (by rw [List.length_append]; simp; omega))
        have := DctC.t (a := a) (xs ++ [(.t l, b, ux)]) (vv ++ [vx]) (by simp) (by rw [List.map_append]; exact Vals.append hvv (.cons rx .nil)) (fun y hy => by
          rcases List.mem_append.mp hy with hy | hy
          · exact hx y hy
          · simp only [List.mem_singleton] at hy
            subst hy
            exact ⟨hd, l, rfl⟩)
        rw [List.map_append, List.map_append] at this
        exact this
/-- len(d) -/
theorem dd_len {Q : Value → Shared → Prop} (hw : X.w = Wd.w) (I : Inv X pins σ H s) (hr : Rd H a u) (c : DctC a u kv vv ks) (rk : RVs X.K own mu H kv ks)
    (q : ∀ t s', Inv X pins σ H s' → Q (.int ks.length t) s') : wpAny (model X.prog X.w) X.A (call (.builtin "len") [.ref a]) Q E s := by
  cases c with
  | k kvs =>
    have e : kvs.length = ks.length := by rw [← rk.length, List.length_map]
    rw [← e] at q
    exact d_len I hr q
  | t xs vv hn hvv hx =>
    obtain ⟨hz, hs, dh⟩ := dictH hw I hr rk hx
    rw [sizeLine_eq] at hz
    rw [List.length_map] at q
    exact call_len_dictH hs dh (by omega) (q _ _ (I.tok _))
end
end DL

set_option Elab.async false
set_option linter.all false
set_option maxRecDepth 100000
set_option maxHeartbeats 4000000
/-! the deep layer: operations, by what they mean -/
namespace DL
open PySem PySem.Spec PyProof.Rows L2
variable [Wd]

def pyOp : Op2 → Operator
  | .add => .Add | .sub => .Sub | .mul => .Mult | .fdiv => .FloorDiv | .mod => .Mod | .pow => .Pow
def pyCp : Cp → CmpOp
  | .eq => .Eq | .ne => .NotEq | .lt => .Lt | .le => .LtE | .gt => .Gt | .ge => .GtE | .isin => .In | .notin => .NotIn
/-- two values and what comes of them -/
def rF2 (K : PySem.W.Frag) (f : D → D → Option D) : R2 := fun x y H Q => ∃ mu g d e z, Sim K mu g H ∧ RV K (Own mu g) mu H x d ∧ RV K (Own mu g) mu H y e ∧ f (rd g d) (rd g e) = some z ∧ Kt K mu g H g z Q
theorem rd_tup_eq {g : G} {d : D} {ds : List D} (e : rd g d = .tup ds) : d = .tup ds := by
  cases d with
  | ref n =>
    exfalso
    simp only [rd] at e
    cases hg : g[n]? with
    | none => rw [hg] at e; cases e
    | some o => rw [hg] at e; cases o <;> cases e
  | _ => exact e
section
variable {X : Cx}
theorem op2_ok (op : Op2) : OpR X (binaryOp (pyOp op)) (rF2 X.K (op2 op)) := by
  intro pins s σ H x y v u Q I rx ry ⟨mu, g, d, e, z, S, hx, hy, h, k⟩
  unfold op2 at h
  split at h
  · rename_i i j e1 e2
    cases h
    exact op_add pins s σ H x y v u Q I rx ry ⟨i, j, rd_int hx e1, rd_int hy e2, k.flat S (.int _)⟩
  · rename_i i j e1 e2
    split at h
    · rename_i hl
      cases h
      exact op_add_str pins s σ H x y v u Q I rx ry ⟨i, j, rd_str hx e1, rd_str hy e2, hl, k.flat S (.str _)⟩
    · cases h
  · rename_i xs ys e1 e2
    split at h
    · rename_i hl
      cases h
      obtain ⟨a, vs, rfl, q1, r1⟩ := rd_tup hx e1
      obtain ⟨b, ws, rfl, q2, r2⟩ := rd_tup hy e2
      have l1 := r1.length
      have l2 := r2.length
      refine op_catA pins s σ H _ _ v u Q I rx ry ⟨a, b, vs, ws, rfl, rfl, q1, q2, by omega, fun h0 => ?_, fun h0 h1 => ?_, fun h0 h1 => ?_⟩
      · have : xs = [] := r1.nil_iff.mp h0
        subst this
        have e2' : e = .tup ys := rd_tup_eq e2
        subst e2'
        exact k.flat S (by simpa using hy)
      · have : ys = [] := r2.nil_iff.mp h1
        subst this
        have e1' : d = .tup xs := rd_tup_eq e1
        subst e1'
        exact k.flat S (by simpa using hx)
      · exact Kt.newTup S (r1.append r2) k
    · cases h
  · rename_i xs ys e1 e2
    split at h
    · rename_i hl
      cases h
      obtain ⟨a, vs, rfl, q1, r1⟩ := rd_lst S hx e1
      obtain ⟨b, ws, rfl, q2, r2⟩ := rd_lst S hy e2
      have l1 := r1.length
      have l2 := r2.length
      exact op_catL pins s σ H _ _ v u Q I rx ry ⟨a, b, vs, ws, rfl, rfl, q1, q2, by omega, Kt.newLst S (r1.append r2) k⟩
    · cases h
  · rename_i i j e1 e2
    cases h
    exact op_sub pins s σ H x y v u Q I rx ry ⟨i, j, rd_int hx e1, rd_int hy e2, k.flat S (.int _)⟩
  · rename_i i j e1 e2
    split at h
    · rename_i hl
      cases h
      have e1' := rd_int hx e1
      have e2' := rd_int hy e2
      rcases hl with hl | hl | hl
      · exact op_mul pins s σ H x y v u Q I rx ry ⟨i, j, e1', e2', .inl ⟨by omega, by omega⟩, k.flat S (.int _)⟩
      · exact op_mul pins s σ H x y v u Q I rx ry ⟨i, j, e1', e2', .inr ⟨by omega, by omega⟩, k.flat S (.int _)⟩
      · exact op_mulW pins s σ H x y v u Q I rx ry ⟨i, j, e1', e2', hl, k.flat S (.int _)⟩
    · cases h
  · rename_i i j e1 e2
    split at h
    · rename_i hl
      cases h
      exact op_fdivW pins s σ H x y v u Q I rx ry ⟨i, j, rd_int hx e1, rd_int hy e2, hl, k.flat S (.int _)⟩
    · cases h
  · rename_i i j e1 e2
    split at h
    · rename_i hl
      cases h
      exact op_mod pins s σ H x y v u Q I rx ry ⟨i, j, rd_int hx e1, rd_int hy e2, hl, k.flat S (.int _)⟩
    · cases h
  · rename_i i j e1 e2
    split at h
    · rename_i hl
      cases h
      exact op_pow pins s σ H x y v u Q I rx ry ⟨i, j, rd_int hx e1, rd_int hy e2, hl, k.flat S (.int _)⟩
    · cases h
  · cases h

/-- the items of what may be read -/
theorem in_seq_run (hu : X.A.units + 64 < cLine) {pins : List (Addr × Obj)} {s : Shared} {σ : L2.St} {H : Hp} {x : V} {v : Value} {own : Addr → Prop} {mu : List Addr} {d : D} {ys : List D} {b : Bool} (I : Inv X pins σ H s) (rx : RelV x v) (hx : kindD d < 5 → RB X.K own mu H x d)
    {vs : List V} {us : List Value} (r : RVs X.K own mu H vs ys) (rv : Vals vs us) (h : inOs d ys = some b) : ∃ e : Value → Bool, (∀ y, y ∈ us → SeqAt.EqAt X.A.in1 s y v (e y)) ∧ us.any e = b := by
  obtain ⟨f, h1, h2, h3⟩ := in_bits (A := X.A.in1) I hx rx (by show X.A.units + 1 + 60 < _; omega) ys vs us b r rv h
  obtain ⟨e, e1, e2⟩ := in_fun h2
  refine ⟨e, fun y hy => ?_, e2.trans h3⟩
  obtain ⟨j, hj, rfl⟩ := List.mem_iff_getElem.mp hy
  rw [e1 j hj]
  exact h1 j hj
theorem rd_keyed {g : G} {d : D} {k : TK} (e : rd g d = kD k) : d = kD k := by
  cases k with
  | a k => cases k <;> exact rd_flat e (by simp [kD, dOf, kindD])
  | t l => rw [kD] at e ⊢; exact rd_tup_eq e
theorem cp_ok (op : Cp) (hw : X.w = Wd.w) (hu : X.A.units + 64 < cLine) : OpR X (compareOp (pyCp op)) (rF2 X.K fun d e => (cmpD op d e).map D.bl) := by
  intro pins s σ H x y v u Q I rx ry ⟨mu, g, d, e, z, S, hx, hy, h, k⟩
  obtain ⟨b, hb, rfl⟩ := Option.map_eq_some_iff.mp h
  have kb : Q (.bl b) H := k.flat S (.bl _)
  unfold cmpD at hb
  split at hb
  · have kk := eqO_kind (eqD_some hb).2
    exact op_eqB hu pins s σ H x y v u Q I rx ry ⟨_, mu, _, _, b, rd_rb S hx kk.1, rd_rb S hy kk.2, hb, kb⟩
  · obtain ⟨b', hb', rfl⟩ := Option.map_eq_some_iff.mp hb
    have kk := eqO_kind (eqD_some hb').2
    exact op_neB hu pins s σ H x y v u Q I rx ry ⟨_, mu, _, _, b', rd_rb S hx kk.1, rd_rb S hy kk.2, hb', kb⟩
  · rename_i i j e1 e2
    cases hb
    exact op_lt pins s σ H x y v u Q I rx ry ⟨i, j, rd_int hx e1, rd_int hy e2, kb⟩
  · rename_i i j e1 e2
    cases hb
    exact op_le pins s σ H x y v u Q I rx ry ⟨i, j, rd_int hx e1, rd_int hy e2, kb⟩
  · rename_i i j e1 e2
    cases hb
    exact op_gt pins s σ H x y v u Q I rx ry ⟨i, j, rd_int hx e1, rd_int hy e2, kb⟩
  · rename_i i j e1 e2
    cases hb
    exact op_ge pins s σ H x y v u Q I rx ry ⟨i, j, rd_int hx e1, rd_int hy e2, kb⟩
  · unfold inD at hb
    split at hb
    · rename_i ys e2
      obtain ⟨a, vs, rfl, q2, r2⟩ := rd_tup hy e2
      cases ry
      obtain ⟨its, rv, pl, _⟩ := I.tuple q2
      obtain ⟨f, f1, f2⟩ := in_seq_run hu I rx (fun hk => rd_rb S hx hk) r2 rv hb
      refine SeqAt.in_tupleAt f (tupI pl) (fun w hw => f1 w (by simpa using hw)) ⟨.bl _, H, I, rfl, ?_⟩
      rw [show its.toArray.any f = its.any f by simp, f2]
      exact kb
    · rename_i ys e2
      obtain ⟨a, vs, rfl, q2, r2⟩ := rd_lst S hy e2
      cases ry
      obtain ⟨its, rv, pl, _⟩ := I.list q2
      obtain ⟨f, f1, f2⟩ := in_seq_run hu I rx (fun hk => rd_rb S hx hk) r2 rv hb
      refine SeqAt.in_listAt f pl.isList (fun w hw => f1 w (by simpa using hw)) ⟨.bl _, H, I, rfl, ?_⟩
      rw [show its.toArray.any f = its.any f by simp, f2]
      exact kb
    · rename_i ks vs e2
      obtain ⟨a, u0, kv, vv, rfl, q2, c2, r2, r3⟩ := rd_dct S hy e2
      cases ry
      split at hb
      · rename_i ky e3
        split at hb
        · rename_i hok
          cases hb
          have e4 := kOf_kD e3
          have hx' : RV X.K (Own mu g) mu H x (kD ky) := by rw [← rd_keyed e4]; exact hx
          exact dd_in hw hu I q2 ⟨c2, r2, r3, hx', hok⟩ rx fun s' I' => ⟨.bl _, H, I', rfl, kb⟩
        · cases hb
      · cases hb
    · rename_i yy e2
      split at hb
      · rename_i xx e1
        cases hb
        have e1' := rd_str hx e1
        have e2' := rd_str hy e2
        unfold strIn at kb
        split at kb
        · rename_i c ec
          refine op_in_sign pins s σ H x y v u Q I rx ry ⟨c, yy, ?_, e2', kb⟩
          rw [e1']
          congr 1
          exact TL.ext_tl (by rw [TL.tl_mk [c]]; exact ec)
        · exact op_in_str pins s σ H x y v u Q I rx ry ⟨xx, yy, e1', e2', kb⟩
      · cases hb
    · cases hb
  · obtain ⟨b', hb', rfl⟩ := Option.map_eq_some_iff.mp hb
    unfold inD at hb'
    split at hb'
    · rename_i ys e2
      obtain ⟨a, vs, rfl, q2, r2⟩ := rd_tup hy e2
      cases ry
      obtain ⟨its, rv, pl, _⟩ := I.tuple q2
      obtain ⟨f, f1, f2⟩ := in_seq_run hu I rx (fun hk => rd_rb S hx hk) r2 rv hb'
      refine SeqAt.notIn_tupleAt f (tupI pl) (fun w hw => f1 w (by simpa using hw)) ⟨.bl _, H, I, rfl, ?_⟩
      rw [show its.toArray.any f = its.any f by simp, f2]
      exact kb
    · rename_i ys e2
      obtain ⟨a, vs, rfl, q2, r2⟩ := rd_lst S hy e2
      cases ry
      obtain ⟨its, rv, pl, _⟩ := I.list q2
      obtain ⟨f, f1, f2⟩ := in_seq_run hu I rx (fun hk => rd_rb S hx hk) r2 rv hb'
      refine SeqAt.notIn_listAt f pl.isList (fun w hw => f1 w (by simpa using hw)) ⟨.bl _, H, I, rfl, ?_⟩
      rw [show its.toArray.any f = its.any f by simp, f2]
      exact kb
    · rename_i ks vs e2
      obtain ⟨a, u0, kv, vv, rfl, q2, c2, r2, r3⟩ := rd_dct S hy e2
      cases ry
      split at hb'
      · rename_i ky e3
        split at hb'
        · rename_i hok
          cases hb'
          have e4 := kOf_kD e3
          have hx' : RV X.K (Own mu g) mu H x (kD ky) := by rw [← rd_keyed e4]; exact hx
          exact dd_notIn hw hu I q2 ⟨c2, r2, r3, hx', hok⟩ rx fun s' I' => ⟨.bl _, H, I', rfl, kb⟩
        · cases hb'
      · cases hb'
    · rename_i yy e2
      split at hb'
      · rename_i xx e1
        cases hb'
        have e1' := rd_str hx e1
        have e2' := rd_str hy e2
        unfold strIn at kb
        split at kb
        · rename_i c ec
          refine op_notIn_sign pins s σ H x y v u Q I rx ry ⟨c, yy, ?_, e2', kb⟩
          rw [e1']
          congr 1
          exact TL.ext_tl (by rw [TL.tl_mk [c]]; exact ec)
        · exact op_notin_str pins s σ H x y v u Q I rx ry ⟨xx, yy, e1', e2', kb⟩
      · cases hb'
    · cases hb'
  · cases hb
/-- a value's truth -/
theorem tru_of {K : PySem.W.Frag} {mu : List Addr} {g : G} {H : Hp} {v : V} {d : D} {b : Bool} (S : Sim K mu g H) (h : RV K (Own mu g) mu H v d) (e : truD (rd g d) = some b) : TruV K v H b := by
  unfold truD at e
  split at e
  · rename_i e1; cases e; rw [rd_non h e1]; rfl
  · rename_i e1; cases e; rw [rd_bl h e1]; rfl
  · rename_i e1; cases e; rw [rd_int h e1]; rfl
  · rename_i e1
    split at e
    · cases e; rw [rd_str h e1]; exact ⟨by assumption, rfl⟩
    · cases e
  · rename_i e1; cases e; obtain ⟨a, vs, rfl, q, r⟩ := rd_tup h e1; exact .inr (.inl ⟨vs, q, by rw [r.isEmpty]⟩)
  · rename_i e1; cases e; obtain ⟨a, vs, rfl, q, r⟩ := rd_lst S h e1; exact .inl ⟨vs, q, by rw [r.isEmpty]⟩
  · cases e
end
end DL

set_option Elab.async false
set_option linter.all false
set_option maxRecDepth 100000
set_option maxHeartbeats 4000000
/-! the deep layer: expressions, one construct at a time -/
namespace DL
open PySem PySem.Spec PyProof.Rows L2
variable [Wd]

section
variable {K : PySem.W.Frag} {Xk : XK} {mu : List Addr} {g : G} {H : Hp} {α β : Type}
theorem Wp.bd {m : M α} {k : α → M β} {Q : List Addr → G → Hp → β → Prop} (h : Wp K Xk mu g H ((m >>= k) g) Q) : Wp K Xk mu g H (m g) (fun mu' g' H' a => Wp K Xk mu' g' H' (k a g') Q) := Wp.bind h
theorem Wp.optI {o : Option α} {Q : List Addr → G → Hp → α → Prop} (h : Wp K Xk mu g H (optM o g) Q) : ∃ a, o = some a ∧ ∀ mu' H', Ext mu g H mu' g H' → Sim K mu' g H' → Q mu' g H' a := by
  cases o with
  | some a => exact ⟨a, rfl, h⟩
  | none => exact h.elim
theorem Wp.rdI {d : D} {k : D → M β} {Q : List Addr → G → Hp → β → Prop} (h : Wp K Xk mu g H ((rdM d >>= k) g) Q) : Wp K Xk mu g H (k (rd g d) g) Q := h
theorem Wp.needI {c : Prop} [Decidable c] {k : Unit → M β} {Q : List Addr → G → Hp → β → Prop} (h : Wp K Xk mu g H ((needM c >>= k) g) Q) : c ∧ Wp K Xk mu g H (k () g) Q := by
  by_cases hc : c
  · refine ⟨hc, ?_⟩
    have e : (needM c >>= k) g = k () g := by
      show (needM c g).bind k = _
      unfold needM
      rw [if_pos hc]
      rfl
    rwa [e] at h
  · have e : (needM c >>= k) g = .bad := by
      show (needM c g).bind k = _
      unfold needM
      rw [if_neg hc]
      rfl
    rw [e] at h
    exact h.elim
theorem Wp.optB {o : Option α} {k : α → M β} {Q : List Addr → G → Hp → β → Prop} (h : Wp K Xk mu g H ((optM o >>= k) g) Q) : ∃ a, o = some a ∧ Wp K Xk mu g H (k a g) Q := by
  cases o with
  | some a => exact ⟨a, rfl, h⟩
  | none => exact h.elim
end

section
variable {X : Cx} {W : WX} {a b c e : Expr} {Fa Fb Fc : FE} {pos : Pos}
theorem s_v {i : Nat} {x : Str} (hN : X.N[i]? = some x) (hv : Vis X.env.scope x) (hd : (x == ("__debug__" : Str)) = false) (hcd : (x == ("__classdict__" : Str)) = false) : PE X (.Name x pos) (tE X.K W fun ρ => optM (slot ρ i)) :=
  pe_mono (pe_var hN hv hd hcd) fun σ H Q ⟨mu, g, ρ, S, R, h⟩ => by
    obtain ⟨d, hd, k⟩ := Wp.optI h
    obtain ⟨v, e, r⟩ := R.at_ i d (slot_some hd)
    exact ⟨v, e, k mu H .refl S v r⟩
theorem s_c {v : V} {d : D} (h : PE X e (tC v)) (hr : ∀ own mu H, RV X.K own mu H v d) : PE X e (tE X.K W fun _ => pure d) :=
  pe_mono h fun σ H Q ⟨mu, g, ρ, S, R, h⟩ => Wp.here S h v (hr _ _ _)
/-- a module's constant -/
theorem s_gl {x : Str} {u : Value} {v : V} {o : Option D} (hg : Gl X x) (hd : (x == ("__debug__" : Str)) = false) (ho : ∀ d, o = some d → ∃ u v, X.mg x = some u ∧ RelV v u ∧ ∀ own mu H, RV X.K own mu H v d) : PE X (.Name x pos) (tE X.K W fun _ => optM o) := by
  cases o with
  | none => exact pe_bad fun σ H Q ⟨mu, g, ρ, S, R, h⟩ => h
  | some d =>
    obtain ⟨u, v, hm, r, hr⟩ := ho d rfl
    exact s_c (pe_glob hg hm r hd) hr
theorem s_bin {op : Operator} {f : D → D → Option D} (ho : OpR X (binaryOp op) (rF2 X.K f)) (ha : PE X a (tE X.K W Fa)) (hb : PE X b (tE X.K W Fb)) : PE X (.BinOp a op b pos) (tE X.K W fun ρ => do
    let x ← Fa ρ
    let y ← Fb ρ
    let x ← rdM x
    let y ← rdM y
    optM (f x y)) :=
  pe_mono (pe_op ho ha hb) fun σ H Q ⟨mu, g, ρ, S, R, h⟩ => ⟨mu, g, ρ, S, R, (Wp.bd h).mono fun mu1 g1 H1 d1 e1 S1 h1 v1 r1 => ⟨mu1, g1, ρ, S1, R.ext e1, (Wp.bd h1).mono fun mu2 g2 H2 d2 e2 S2 h2 v2 r2 =>
    let ⟨z, hz, k⟩ := Wp.optI (Wp.rdI (Wp.rdI h2))
    ⟨mu2, g2, d1, d2, z, S2, r1.ext e2, r2, hz, k⟩⟩⟩
theorem s_neg (ha : PE X a (tE X.K W Fa)) : PE X (.UnaryOp .USub a pos) (tE X.K W fun ρ => do
    let x ← Fa ρ
    match x with
    | .int i => pure (.int (-i))
    | _ => M.bad) :=
  pe_mono (pe_un un_neg ha) fun σ H Q ⟨mu, g, ρ, S, R, h⟩ => ⟨mu, g, ρ, S, R, (Wp.bd h).mono fun mu1 g1 H1 d1 e1 S1 h1 v1 r1 => by
    cases d1 with
    | int i => exact ⟨i, r1.int_inv, Wp.here S1 h1 _ (.int _)⟩
    | _ => exact h1.elim⟩
theorem s_not (ha : PE X a (tE X.K W Fa)) : PE X (.UnaryOp .Not a pos) (tE X.K W fun ρ => do
    let x ← Fa ρ
    let x ← rdM x
    let b ← optM (truD x)
    pure (.bl (!b))) :=
  pe_mono (pe_notT ha) fun σ H Q ⟨mu, g, ρ, S, R, h⟩ => ⟨mu, g, ρ, S, R, (Wp.bd h).mono fun mu1 g1 H1 d1 e1 S1 h1 v1 r1 =>
    let ⟨b, hb, k⟩ := Wp.optB (Wp.rdI h1)
    ⟨b, tru_of S1 r1 hb, Wp.here S1 k _ (.bl _)⟩⟩
theorem s_cmp {op : CmpOp} {f : D → D → Option Bool} (hm : behindInMarks op b = false) (ho : OpR X (compareOp op) (rF2 X.K fun d e => (f d e).map D.bl)) (ha : PE X a (tE X.K W Fa)) (hb : PE X b (tE X.K W Fb)) : PE X (.Compare a [op] [b] pos) (tE X.K W fun ρ => do
    let x ← Fa ρ
    let y ← Fb ρ
    let x ← rdM x
    let y ← rdM y
    let b ← optM (f x y)
    pure (.bl b)) :=
  pe_mono (pe_cmpR ho ha hb hm) fun σ H Q ⟨mu, g, ρ, S, R, h⟩ => ⟨mu, g, ρ, S, R, (Wp.bd h).mono fun mu1 g1 H1 d1 e1 S1 h1 v1 r1 => ⟨mu1, g1, ρ, S1, R.ext e1, (Wp.bd h1).mono fun mu2 g2 H2 d2 e2 S2 h2 v2 r2 =>
    let ⟨z, hz, k⟩ := Wp.optB (Wp.rdI (Wp.rdI h2))
    ⟨mu2, g2, d1, d2, .bl z, S2, r1.ext e2, r2, congrArg (Option.map D.bl) hz, k⟩⟩⟩
/-- the test of a comparison -/
theorem st_cmp {op : CmpOp} {f : D → D → Option Bool} (hm : behindInMarks op b = false) (ho : OpR X (compareOp op) (rF2 X.K fun d e => (f d e).map D.bl)) (ha : PE X a (tE X.K W Fa)) (hb : PE X b (tE X.K W Fb)) : PT X (.Compare a [op] [b] pos) (tT X.K W fun ρ => do
    let x ← Fa ρ
    let y ← Fb ρ
    let x ← rdM x
    let y ← rdM y
    optM (f x y)) :=
  pt_mono (pt_cmpR ho ha hb hm) fun σ H Q ⟨mu, g, ρ, S, R, h⟩ => ⟨mu, g, ρ, S, R, (Wp.bd h).mono fun mu1 g1 H1 d1 e1 S1 h1 v1 r1 => ⟨mu1, g1, ρ, S1, R.ext e1, (Wp.bd h1).mono fun mu2 g2 H2 d2 e2 S2 h2 v2 r2 =>
    let ⟨z, hz, k⟩ := Wp.optI (Wp.rdI (Wp.rdI h2))
    ⟨mu2, g2, d1, d2, .bl z, S2, r1.ext e2, r2, congrArg (Option.map D.bl) hz, fun mu3 H3 e3 S3 v3 r3 => ⟨z, r3.bl_inv, k mu3 H3 e3 S3⟩⟩⟩⟩
/-- a op b op' c -/
theorem s_cmp2 {op op' : CmpOp} {f f' : D → D → Option Bool} (hm : lastMarks [op, op'] [b, c] = false) (ho : OpR X (compareOp op) (rF2 X.K fun d e => (f d e).map D.bl)) (ho' : OpR X (compareOp op') (rF2 X.K fun d e => (f' d e).map D.bl))
    (ha : PE X a (tE X.K W Fa)) (hb : PE X b (tE X.K W Fb)) (hc : PE X c (tE X.K W Fc)) : PE X (.Compare a [op, op'] [b, c] pos) (tE X.K W fun ρ => do
    let x ← Fa ρ
    let y ← Fb ρ
    let x' ← rdM x
    let y' ← rdM y
    let k ← optM (f x' y')
    if k then do
      let z ← Fc ρ
      let y' ← rdM y
      let z' ← rdM z
      let k ← optM (f' y' z')
      pure (.bl k)
    else pure (.bl false)) :=
  pe_mono (pe_chain ho ho' ha hb hc hm) fun σ H Q ⟨mu, g, ρ, S, R, h⟩ => ⟨mu, g, ρ, S, R, (Wp.bd h).mono fun mu1 g1 H1 d1 e1 S1 h1 v1 r1 => ⟨mu1, g1, ρ, S1, R.ext e1, (Wp.bd h1).mono fun mu2 g2 H2 d2 e2 S2 h2 v2 r2 => by
    obtain ⟨z, hz, k⟩ := Wp.optB (Wp.rdI (Wp.rdI h2))
    refine ⟨mu2, g2, d1, d2, .bl z, S2, r1.ext e2, r2, congrArg (Option.map D.bl) hz, fun mu3 H3 e3 S3 v3 r3 => ⟨z, r3.bl_inv, ?_⟩⟩
    cases z with
    | true =>
      refine ⟨mu3, g2, ρ, S3, ((R.ext e1).ext e2).ext e3, (Wp.bd (Wp.ext e3 k)).mono fun mu4 g4 H4 d4 e4 S4 h4 v4 r4 => ?_⟩
      obtain ⟨z', hz', k'⟩ := Wp.optB (Wp.rdI (Wp.rdI h4))
      exact ⟨mu4, g4, d2, d4, .bl z', S4, (r2.ext e3).ext e4, r4, congrArg (Option.map D.bl) hz', k'⟩
    | false => exact Wp.here S3 (Wp.ext e3 k) _ (.bl _)⟩⟩
theorem st_cmp2 {op op' : CmpOp} {f f' : D → D → Option Bool} (hm : lastMarks [op, op'] [b, c] = false) (ho : OpR X (compareOp op) (rF2 X.K fun d e => (f d e).map D.bl)) (ho' : OpR X (compareOp op') (rF2 X.K fun d e => (f' d e).map D.bl))
    (ha : PE X a (tE X.K W Fa)) (hb : PE X b (tE X.K W Fb)) (hc : PE X c (tE X.K W Fc)) : PT X (.Compare a [op, op'] [b, c] pos) (tT X.K W fun ρ => do
    let x ← Fa ρ
    let y ← Fb ρ
    let x' ← rdM x
    let y' ← rdM y
    let k ← optM (f x' y')
    if k then do
      let z ← Fc ρ
      let y' ← rdM y
      let z' ← rdM z
      optM (f' y' z')
    else pure false) :=
  pt_mono (pt_chain ho ho' ha hb hc hm) fun σ H Q ⟨mu, g, ρ, S, R, h⟩ => ⟨mu, g, ρ, S, R, (Wp.bd h).mono fun mu1 g1 H1 d1 e1 S1 h1 v1 r1 => ⟨mu1, g1, ρ, S1, R.ext e1, (Wp.bd h1).mono fun mu2 g2 H2 d2 e2 S2 h2 v2 r2 => by
    obtain ⟨z, hz, k⟩ := Wp.optB (Wp.rdI (Wp.rdI h2))
    refine ⟨mu2, g2, d1, d2, .bl z, S2, r1.ext e2, r2, congrArg (Option.map D.bl) hz, fun mu3 H3 e3 S3 v3 r3 => ⟨z, r3.bl_inv, ?_⟩⟩
    cases z with
    | true =>
      refine ⟨mu3, g2, ρ, S3, ((R.ext e1).ext e2).ext e3, (Wp.bd (Wp.ext e3 k)).mono fun mu4 g4 H4 d4 e4 S4 h4 v4 r4 => ?_⟩
      obtain ⟨z', hz', k'⟩ := Wp.optI (Wp.rdI (Wp.rdI h4))
      exact ⟨mu4, g4, d2, d4, .bl z', S4, (r2.ext e3).ext e4, r4, congrArg (Option.map D.bl) hz', fun mu5 H5 e5 S5 v5 r5 => ⟨z', r5.bl_inv, k' mu5 H5 e5 S5⟩⟩
    | false => exact ⟨false, rfl, Wp.here S3 (Wp.ext e3 k)⟩⟩⟩
theorem s_isn {j : Nat} {p : Pos} (ha : PE X a (tE X.K W Fa)) : PE X (.Compare a [.Is] [.Constant .none j p] pos) (tE X.K W fun ρ => do
    let x ← Fa ρ
    match x with
    | .non => pure (.bl true)
    | _ => pure (.bl false)) :=
  pe_mono (pe_cmp (pc_isN ha)) fun σ H Q ⟨mu, g, ρ, S, R, h⟩ => ⟨mu, g, ρ, S, R, (Wp.bd h).mono fun mu1 g1 H1 d1 e1 S1 h1 v1 r1 => by
    have hi := r1.non_iff
    dsimp only
    by_cases hd : d1 = .non
    · subst hd
      rw [decide_eq_true (hi.mpr rfl)]
      exact Wp.here S1 h1 _ (.bl _)
    · rw [decide_eq_false (fun z => hd (hi.mp z))]
      cases d1 <;> first | exact absurd rfl hd | exact Wp.here S1 h1 _ (.bl _)⟩
theorem s_notn {j : Nat} {p : Pos} (ha : PE X a (tE X.K W Fa)) : PE X (.Compare a [.IsNot] [.Constant .none j p] pos) (tE X.K W fun ρ => do
    let x ← Fa ρ
    match x with
    | .non => pure (.bl false)
    | _ => pure (.bl true)) :=
  pe_mono (pe_cmp (pc_notN ha)) fun σ H Q ⟨mu, g, ρ, S, R, h⟩ => ⟨mu, g, ρ, S, R, (Wp.bd h).mono fun mu1 g1 H1 d1 e1 S1 h1 v1 r1 => by
    have hi := r1.non_iff
    dsimp only
    by_cases hd : d1 = .non
    · subst hd
      rw [decide_eq_true (hi.mpr rfl)]
      exact Wp.here S1 h1 _ (.bl _)
    · rw [decide_eq_false (fun z => hd (hi.mp z))]
      cases d1 <;> first | exact absurd rfl hd | exact Wp.here S1 h1 _ (.bl _)⟩
theorem st_isn {j : Nat} {p : Pos} (ha : PE X a (tE X.K W Fa)) : PT X (.Compare a [.Is] [.Constant .none j p] pos) (tT X.K W fun ρ => do
    let x ← Fa ρ
    match x with
    | .non => pure true
    | _ => pure false) :=
  pt_mono (pt_cmp (pc_isN ha)) fun σ H Q ⟨mu, g, ρ, S, R, h⟩ => ⟨mu, g, ρ, S, R, (Wp.bd h).mono fun mu1 g1 H1 d1 e1 S1 h1 v1 r1 => by
    have hi := r1.non_iff
    refine ⟨_, rfl, ?_⟩
    by_cases hd : d1 = .non
    · subst hd
      rw [decide_eq_true (hi.mpr rfl)]
      exact Wp.here S1 h1
    · rw [decide_eq_false (fun z => hd (hi.mp z))]
      cases d1 <;> first | exact absurd rfl hd | exact Wp.here S1 h1⟩
theorem st_notn {j : Nat} {p : Pos} (ha : PE X a (tE X.K W Fa)) : PT X (.Compare a [.IsNot] [.Constant .none j p] pos) (tT X.K W fun ρ => do
    let x ← Fa ρ
    match x with
    | .non => pure false
    | _ => pure true) :=
  pt_mono (pt_cmp (pc_notN ha)) fun σ H Q ⟨mu, g, ρ, S, R, h⟩ => ⟨mu, g, ρ, S, R, (Wp.bd h).mono fun mu1 g1 H1 d1 e1 S1 h1 v1 r1 => by
    have hi := r1.non_iff
    refine ⟨_, rfl, ?_⟩
    by_cases hd : d1 = .non
    · subst hd
      rw [decide_eq_true (hi.mpr rfl)]
      exact Wp.here S1 h1
    · rw [decide_eq_false (fun z => hd (hi.mp z))]
      cases d1 <;> first | exact absurd rfl hd | exact Wp.here S1 h1⟩
/-- a value's truth as a test -/
theorem st_tru (he : ∀ whole, isTrue a X.env whole = (do let v ← whole; standAt a.pos; holding [v] (truthy v))) (ha : PE X a (tE X.K W Fa)) : PT X a (tT X.K W fun ρ => do
    let x ← Fa ρ
    let x ← rdM x
    optM (truD x)) :=
  pt_mono (pt_truth ha he) fun σ H Q ⟨mu, g, ρ, S, R, h⟩ => ⟨mu, g, ρ, S, R, (Wp.bd h).mono fun mu1 g1 H1 d1 e1 S1 h1 v1 r1 =>
    let ⟨b, hb, k⟩ := Wp.optI (Wp.rdI h1)
    ⟨b, tru_of S1 r1 hb, k mu1 H1 .refl S1⟩⟩
theorem st_not {Ta : Env' → M Bool} (ha : PT X a (tT X.K W Ta)) : PT X (.UnaryOp .Not a pos) (tT X.K W fun ρ => do
    let b ← Ta ρ
    pure (!b)) :=
  pt_mono (pt_not ha) fun σ H Q ⟨mu, g, ρ, S, R, h⟩ => ⟨mu, g, ρ, S, R, (Wp.bd h).mono fun mu1 g1 H1 b e1 S1 h1 => Wp.here S1 h1⟩
theorem s_ite {Tc : Env' → M Bool} (hc : PT X c (tT X.K W Tc)) (ha : PE X a (tE X.K W Fa)) (hb : PE X b (tE X.K W Fb)) : PE X (.IfExp c a b pos) (tE X.K W fun ρ => do
    let k ← Tc ρ
    if k then Fa ρ else Fb ρ) :=
  pe_mono (pe_ifExp hc ha hb) fun σ H Q ⟨mu, g, ρ, S, R, h⟩ => ⟨mu, g, ρ, S, R, (Wp.bd h).mono fun mu1 g1 H1 k e1 S1 h1 => by
    cases k with
    | true => exact ⟨mu1, g1, ρ, S1, R.ext e1, h1⟩
    | false => exact ⟨mu1, g1, ρ, S1, R.ext e1, h1⟩⟩
theorem st_and {Ta Tb : Env' → M Bool} {rest : List Expr} (ha : PT X a (tT X.K W Ta)) (hb : PW X (.BoolOp .And (b :: rest) pos) (tT X.K W Tb)) : PW X (.BoolOp .And (a :: b :: rest) pos) (tT X.K W fun ρ => do
    let k ← Ta ρ
    if k then Tb ρ else pure false) :=
  pw_mono (pw_and ha hb) fun σ H Q ⟨mu, g, ρ, S, R, h⟩ => ⟨mu, g, ρ, S, R, (Wp.bd h).mono fun mu1 g1 H1 k e1 S1 h1 => by
    cases k with
    | true => exact ⟨mu1, g1, ρ, S1, R.ext e1, h1⟩
    | false => exact Wp.here S1 h1⟩
theorem st_or {Ta Tb : Env' → M Bool} {rest : List Expr} (ha : PT X a (tT X.K W Ta)) (hb : PW X (.BoolOp .Or (b :: rest) pos) (tT X.K W Tb)) : PW X (.BoolOp .Or (a :: b :: rest) pos) (tT X.K W fun ρ => do
    let k ← Ta ρ
    if k then pure true else Tb ρ) :=
  pw_mono (pw_or ha hb) fun σ H Q ⟨mu, g, ρ, S, R, h⟩ => ⟨mu, g, ρ, S, R, (Wp.bd h).mono fun mu1 g1 H1 k e1 S1 h1 => by
    cases k with
    | true => exact Wp.here S1 h1
    | false => exact ⟨mu1, g1, ρ, S1, R.ext e1, h1⟩⟩
theorem s_and {rest : List Expr} (ha : PE X a (tE X.K W Fa)) (hb : PE X (.BoolOp .And (b :: rest) pos) (tE X.K W Fb)) : PE X (.BoolOp .And (a :: b :: rest) pos) (tE X.K W fun ρ => do
    let x ← Fa ρ
    let y ← rdM x
    let k ← optM (truD y)
    if k then Fb ρ else pure x) :=
  pe_mono (pe_andT ha hb) fun σ H Q ⟨mu, g, ρ, S, R, h⟩ => ⟨mu, g, ρ, S, R, (Wp.bd h).mono fun mu1 g1 H1 d1 e1 S1 h1 v1 r1 => by
    obtain ⟨k, hk, h2⟩ := Wp.optB (Wp.rdI h1)
    refine ⟨k, tru_of S1 r1 hk, ?_⟩
    cases k with
    | true => exact ⟨mu1, g1, ρ, S1, R.ext e1, h2⟩
    | false => exact Wp.here S1 h2 _ r1⟩
theorem s_or {rest : List Expr} (ha : PE X a (tE X.K W Fa)) (hb : PE X (.BoolOp .Or (b :: rest) pos) (tE X.K W Fb)) : PE X (.BoolOp .Or (a :: b :: rest) pos) (tE X.K W fun ρ => do
    let x ← Fa ρ
    let y ← rdM x
    let k ← optM (truD y)
    if k then pure x else Fb ρ) :=
  pe_mono (pe_orT ha hb) fun σ H Q ⟨mu, g, ρ, S, R, h⟩ => ⟨mu, g, ρ, S, R, (Wp.bd h).mono fun mu1 g1 H1 d1 e1 S1 h1 v1 r1 => by
    obtain ⟨k, hk, h2⟩ := Wp.optB (Wp.rdI h1)
    refine ⟨k, tru_of S1 r1 hk, ?_⟩
    cases k with
    | true => exact Wp.here S1 h2 _ r1
    | false => exact ⟨mu1, g1, ρ, S1, R.ext e1, h2⟩⟩

/-! argument lists, displays -/
theorem sa_nil : PA X [] (tA X.K W fun _ => pure []) := pa_mono pa_nil fun σ H Q ⟨mu, g, ρ, S, R, h⟩ => Wp.here S h _ .nil
theorem sa_cons {es : List Expr} {Fs : Env' → M (List D)} (hs : starEach (a :: es) X.env = (false, eval a X.env) :: starEach es X.env) (ha : PE X a (tE X.K W Fa)) (hr : PA X es (tA X.K W Fs)) : PA X (a :: es) (tA X.K W fun ρ => do
    let x ← Fa ρ
    let xs ← Fs ρ
    pure (x :: xs)) :=
  pa_mono (pa_cons ha hr hs) fun σ H Q ⟨mu, g, ρ, S, R, h⟩ => ⟨mu, g, ρ, S, R, (Wp.bd h).mono fun mu1 g1 H1 d1 e1 S1 h1 v1 r1 => ⟨mu1, g1, ρ, S1, R.ext e1, (Wp.bd h1).mono fun mu2 g2 H2 d2 e2 S2 h2 v2 r2 =>
    Wp.here S2 h2 _ (.cons (r1.ext e2) r2)⟩⟩
theorem s_tup {es : List Expr} {Fs : Env' → M (List D)} {j : Nat} (h : PA X es (tA X.K W Fs)) : PE X (.Tuple es j pos) (tE X.K W fun ρ => do
    let ds ← Fs ρ
    needM (ds.length ≤ sizeLine)
    pure (.tup ds)) :=
  pe_mono (pe_tup h) fun σ H Q ⟨mu, g, ρ, S, R, h⟩ => ⟨mu, g, ρ, S, R, (Wp.bd h).mono fun mu1 g1 H1 ds e1 S1 h1 vs rs =>
    let ⟨hl, k⟩ := Wp.needI h1
    ⟨by rw [rs.length]; exact hl, Kt.newTup S1 rs k⟩⟩
theorem s_lst {es : List Expr} {Fs : Env' → M (List D)} {fz : Bool} (h : PA X es (tA X.K W Fs)) : PE X (.List es pos) (tE X.K W fun ρ => do
    let ds ← Fs ρ
    needM (ds.length ≤ sizeLine)
    mkL fz ds) :=
  pe_mono (pe_lst h) fun σ H Q ⟨mu, g, ρ, S, R, h⟩ => ⟨mu, g, ρ, S, R, (Wp.bd h).mono fun mu1 g1 H1 ds e1 S1 h1 vs rs =>
    let ⟨hl, k⟩ := Wp.needI h1
    ⟨by rw [rs.length]; exact hl, Kt.mkLst S1 rs k⟩⟩
end
end DL

set_option Elab.async false
set_option linter.all false
set_option maxRecDepth 100000
set_option maxHeartbeats 4000000
/-! the deep layer: subscripts, built-in functions -/
namespace DL
open PySem PySem.Spec PyProof.Rows L2
variable [Wd]

/-! ### subscripts -/
section
variable {X : Cx}
theorem ix_dk (hu : X.A.units + 1 < cLine) : IxR X (fun x y H Q => ∃ a v, x = .ref a ∧ DGet H a y (some v) ∧ Q v H) := by
  intro value slice pins s σ H x y v u Q I rx ry h hs
  obtain ⟨a, z, rfl, g, q⟩ := h
  cases rx
  exact tail_any (dict_typeIs I g) PySem.F.slot_dict_getitem.lookup (d_getItem hu I g ry fun w' s3 I3 rw' => ⟨z, H, I3, rw', q⟩) hs
theorem atI_map {α β : Type} (f : α → β) (xs : List α) (i : Int) : atI (xs.map f) i = (atI xs i).map f := by
  unfold atI
  rw [List.length_map]
  cases ixN xs.length i with
  | none => rfl
  | some j => simp
theorem RVs.atI {K : PySem.W.Frag} {own : Addr → Prop} {mu : List Addr} {H : Hp} {ds : List D} {vs : List V} {i : Int} {d : D} (r : RVs K own mu H vs ds) (h : atI ds i = some d) : ∃ v, atI vs i = some v ∧ RV K own mu H v d := by
  unfold L2.atI at h ⊢
  rw [r.length]
  cases e : ixN ds.length i with
  | none => rw [e] at h; cases h
  | some j =>
    rw [e] at h
    obtain ⟨v, h1, h2⟩ := r.get (i := j) h
    exact ⟨v, h1, h2⟩
theorem rd_fn {g : G} {d : D} {n : Str} (e : rd g d = .fn n) : d = .fn n := by
  cases d with
  | ref m =>
    exfalso
    simp only [rd] at e
    cases hg : g[m]? with
    | none => rw [hg] at e; cases e
    | some o => rw [hg] at e; cases o <;> cases e
  | _ => exact e
/-- what is asked of the module's dicts -/
def KdOk (X : Cx) (kd : Str → Str → Option D) : Prop := ∀ n z d, kd n z = some d → ∃ v, KDct X.K X.w (He.ga X.K n) z v ∧ ∀ own mu H, RV X.K own mu H v d
theorem dict_isD {pins : List (Addr × Obj)} {σ : L2.St} {H : Hp} {s : Shared} {a : Addr} {u : HO} {kv vv : List V} {ks : List D} (I : Inv X pins σ H s) (hr : Rd H a u) (c : DctC a u kv vv ks) : s.TypeIs (.ref a) "dict" := by
  cases c with
  | k kvs =>
    obtain ⟨_, _, vs, rel, dd⟩ := dk_rd I.hok hr
    exact dd.typeIs
  | t xs vv _ _ _ =>
    obtain ⟨⟨_, _, _, o, es, ep, h4, h5, h6, h7⟩, _⟩ := hr.ok I.hok
    exact ⟨o, h4, h5.1⟩
theorem ix_ok {kd : Str → Str → Option D} (hw : X.w = Wd.w) (hu : X.A.units + 64 < cLine) (hk : KdOk X kd) : IxR X (rF2 X.K (ixD kd)) := by
  intro value slice pins s σ H x y v u Q I rx ry ⟨mu, g, d, e, z, S, hx, hy, h, k⟩ hs
  unfold ixD at h
  split at h
  · rename_i xs i e1 e2
    obtain ⟨a, vs, rfl, q1, r1⟩ := rd_tup hx e1
    have e3 := rd_int hy e2
    obtain ⟨w, h1, h2⟩ := r1.atI h
    exact ix_tup value slice pins s σ H _ _ v u Q I rx ry ⟨a, vs, i, w, rfl, e3, q1, h1, k.flat S h2⟩ hs
  · rename_i xs i e1 e2
    obtain ⟨a, vs, rfl, q1, r1⟩ := rd_lst S hx e1
    have e3 := rd_int hy e2
    obtain ⟨w, h1, h2⟩ := r1.atI h
    exact ix_list value slice pins s σ H _ _ v u Q I rx ry ⟨a, vs, i, w, rfl, e3, q1, h1, k.flat S h2⟩ hs
  · rename_i xx i e1 e2
    split at h
    · rename_i hl
      obtain ⟨c, hc, rfl⟩ := Option.map_eq_some_iff.mp h
      exact ix_str value slice pins s σ H _ _ v u Q I rx ry ⟨xx, i, c, rd_str hx e1, rd_int hy e2, hl, hc, k.flat S (.str _)⟩ hs
    · cases h
  · rename_i ks ws y' e1
    split at h
    · rename_i ky e3
      split at h
      · rename_i hok
        obtain ⟨a, u0, kv, vv, rfl, q2, c2, r2, r3⟩ := rd_dct S hx e1
        cases rx
        have e4 := kOf_kD e3
        have hy' : RV X.K (Own mu g) mu H y (kD ky) := by rw [← rd_keyed e4]; exact hy
        refine tail_any (dict_isD I q2 c2) PySem.F.slot_dict_getitem.lookup (dd_getItem hw hu I q2 ⟨c2, r2, r3, hy', hok⟩ ry h fun v' w' s' I' rv' rd' => ⟨v', H, I', rv', k.flat S rd'⟩) hs
      · cases h
    · cases h
  · rename_i n t e1 e2
    have e3 := rd_fn e1
    subst e3
    have e4 := rd_str hy e2
    subst e4
    cases hx
    obtain ⟨w, h1, h2⟩ := hk _ _ _ h
    exact ix_kdict value slice pins s σ H _ _ v u Q I rx ry ⟨_, t, w, rfl, rfl, h1, k.flat S (h2 _ _ _)⟩ hs
  · cases h

/-! ### slices -/
def rSl2 (K : PySem.W.Frag) : V → Option Int → Option Int → Hp → VK → Prop := fun x lo hi H Q => ∃ mu g d z, Sim K mu g H ∧ RV K (Own mu g) mu H x d ∧ slD (rd g d) lo hi = some z ∧ Kt K mu g H g z Q
theorem RVs.cut {K : PySem.W.Frag} {own : Addr → Prop} {mu : List Addr} {H : Hp} {ds : List D} {vs : List V} (r : RVs K own mu H vs ds) (lo hi : Option Int) : RVs K own mu H (cutV vs lo hi) (cutL ds lo hi) := by
  unfold cutV cutL
  rw [r.length]
  exact (r.drop _).take _
theorem cutL_whole {ds : List D} {lo hi : Option Int} (h : HT.sIx ds.length 0 lo = 0 ∧ HT.sIx ds.length ds.length hi = ds.length) : cutL ds lo hi = ds := by
  unfold cutL
  rw [h.1, h.2]
  simp
theorem sl_ok : SlR X (rSl2 X.K) := by
  intro pins s σ H x v vl vu lo hi sl Q I rx hs pl pu ⟨mu, g, d, z, S, hx, h, k⟩
  unfold slD at h
  split at h
  · rename_i xs lo' hi' e1
    cases h
    obtain ⟨a, vs, rfl, q1, r1⟩ := rd_tup hx e1
    refine sl_tupA pins s σ H _ v vl vu _ _ sl Q I rx hs pl pu ⟨a, vs, rfl, q1, fun hw => ?_, fun hw => Kt.newTup S (r1.cut _ _) k⟩
    rw [r1.length] at hw
    rw [cutL_whole hw] at k
    have e2 := rd_tup_eq e1
    subst e2
    exact k.flat S hx
  · rename_i xs lo' hi' e1
    cases h
    obtain ⟨a, vs, rfl, q1, r1⟩ := rd_lst S hx e1
    exact sl_list pins s σ H _ v vl vu _ _ sl Q I rx hs pl pu ⟨a, vs, rfl, q1, Kt.newLst S (r1.cut _ _) k⟩
  · rename_i xx lo' hi' e1
    split at h
    · rename_i hl
      cases h
      exact sl_str pins s σ H _ v vl vu _ _ sl Q I rx hs pl pu ⟨_, rd_str hx e1, hl, k.flat S (.str _)⟩
    · cases h
  · cases h
end
def tP (K : PySem.W.Frag) (W : WX) (F : Env' → M (Option Int)) : TO := fun σ H Q => ∃ mu g ρ, Sim K mu g H ∧ RE K (Own mu g) mu H σ ρ ∧
  Wp K (fun c d H => W c d σ H) mu g H (F ρ g) fun mu' g' H' b => Q b H'
section
variable {X : Cx} {W : WX} {a b c e : Expr} {Fa Fb Fc : FE} {pos : Pos}
theorem s_ix {kd : Str → Str → Option D} (hw : X.w = Wd.w) (hu : X.A.units + 64 < cLine) (hk : KdOk X kd) (hs : PlainIx b) (ha : PE X a (tE X.K W Fa)) (hb : PE X b (tE X.K W Fb)) : PE X (.Subscript a b pos) (tE X.K W fun ρ => do
    let x ← Fa ρ
    let y ← Fb ρ
    let x ← rdM x
    let y ← rdM y
    optM (ixD kd x y)) :=
  pe_mono (pe_ix (ix_ok hw hu hk) ha hb hs) fun σ H Q ⟨mu, g, ρ, S, R, h⟩ => ⟨mu, g, ρ, S, R, (Wp.bd h).mono fun mu1 g1 H1 d1 e1 S1 h1 v1 r1 => ⟨mu1, g1, ρ, S1, R.ext e1, (Wp.bd h1).mono fun mu2 g2 H2 d2 e2 S2 h2 v2 r2 =>
    let ⟨z, hz, k⟩ := Wp.optI (Wp.rdI (Wp.rdI h2))
    ⟨mu2, g2, d1, d2, z, S2, r1.ext e2, r2, hz, k⟩⟩⟩
theorem po_mono {e : Option Expr} {t t' : TO} (h : PO X e t) (m : ∀ σ H Q, t' σ H Q → t σ H Q) : PO X e t' := ⟨fun pins s σ H Q I q => h.run pins s σ H Q I (m σ H Q q)⟩
theorem sp_none : PO X none (tP X.K W fun _ => pure none) := po_mono po_none fun σ H Q ⟨mu, g, ρ, S, R, h⟩ => Wp.here S h
theorem sp_some (ha : PE X a (tE X.K W Fa)) : PO X (some a) (tP X.K W fun ρ => do
    let x ← Fa ρ
    match x with
    | .int i => pure (some i)
    | _ => M.bad) :=
  po_mono (po_some ha) fun σ H Q ⟨mu, g, ρ, S, R, h⟩ => ⟨mu, g, ρ, S, R, (Wp.bd h).mono fun mu1 g1 H1 d1 e1 S1 h1 v1 r1 => by
    cases d1 with
    | int i => exact ⟨i, r1.int_inv, Wp.here S1 h1⟩
    | _ => exact h1.elim⟩
theorem s_sl {lo hi : Option Expr} {Fl Fh : Env' → M (Option Int)} {p2 : Pos} (ha : PE X a (tE X.K W Fa)) (hl : PO X lo (tP X.K W Fl)) (hh : PO X hi (tP X.K W Fh)) : PE X (.Subscript a (.Slice lo hi none p2) pos) (tE X.K W fun ρ => do
    let x ← Fa ρ
    let l ← Fl ρ
    let h ← Fh ρ
    let x ← rdM x
    optM (slD x l h)) :=
  pe_mono (pe_slice sl_ok ha hl hh) fun σ H Q ⟨mu, g, ρ, S, R, h⟩ => ⟨mu, g, ρ, S, R, (Wp.bd h).mono fun mu1 g1 H1 d1 e1 S1 h1 v1 r1 => ⟨mu1, g1, ρ, S1, R.ext e1, (Wp.bd h1).mono fun mu2 g2 H2 l e2 S2 h2 => ⟨mu2, g2, ρ, S2, (R.ext e1).ext e2, (Wp.bd h2).mono fun mu3 g3 H3 u e3 S3 h3 =>
    let ⟨z, hz, k⟩ := Wp.optI (Wp.rdI h3)
    ⟨mu3, g3, d1, z, S3, (r1.ext e2).ext e3, hz, k⟩⟩⟩⟩
end

/-! ### built-in functions -/
def rM (K : PySem.W.Frag) (m : List D → M D) : List V → Hp → VK → Prop := fun xs H Q => ∃ Xk mu g ds, Sim K mu g H ∧ RVs K (Own mu g) mu H xs ds ∧ Wp K Xk mu g H (m ds g) fun mu' g' H' d => ∀ v, RV K (Own mu' g') mu' H' v d → Q v H'
section
variable {X : Cx}
theorem RVs.one {K : PySem.W.Frag} {own : Addr → Prop} {mu : List Addr} {H : Hp} {vs : List V} {d : D} (h : RVs K own mu H vs [d]) : ∃ v, vs = [v] ∧ RV K own mu H v d := by
  cases h with
  | cons h t => cases t; exact ⟨_, rfl, h⟩
theorem RVs.two {K : PySem.W.Frag} {own : Addr → Prop} {mu : List Addr} {H : Hp} {vs : List V} {d e : D} (h : RVs K own mu H vs [d, e]) : ∃ v w, vs = [v, w] ∧ RV K own mu H v d ∧ RV K own mu H w e := by
  cases h with
  | cons h t => cases t with
    | cons h2 t => cases t; exact ⟨_, _, rfl, h, h2⟩
theorem RVs.nil_inv {K : PySem.W.Frag} {own : Addr → Prop} {mu : List Addr} {H : Hp} {vs : List V} (h : RVs K own mu H vs []) : vs = [] := by cases h; rfl
theorem bi_len (hw : X.w = Wd.w) : CallR X (.builtin "len") (rM X.K lenM) := by
  intro pins s σ H xs us Q I r ⟨Xk, mu, g, ds, S, rs, h⟩
  unfold lenM at h
  split at h
  · obtain ⟨v, rfl, rv⟩ := rs.one
    try dsimp only at h
    split at h
    · rename_i e1
      obtain ⟨a, vs, rfl, q1, r1⟩ := rd_tup rv e1
      exact call_len_seq pins s σ H _ us Q I r ⟨a, vs, rfl, .inr q1, by rw [r1.length]; exact Wp.here S h _ (.int _)⟩
    · rename_i e1
      obtain ⟨a, vs, rfl, q1, r1⟩ := rd_lst S rv e1
      exact call_len_seq pins s σ H _ us Q I r ⟨a, vs, rfl, .inl q1, by rw [r1.length]; exact Wp.here S h _ (.int _)⟩
    · rename_i x e1
      split at h
      · cases rd_str rv e1
        exact call_len pins s σ H _ us Q I r ⟨.str x, x.length, rfl, ⟨by assumption, rfl⟩, Wp.here S h _ (.int _)⟩
      · exact h.elim
    · rename_i ks vs e1
      obtain ⟨a, u0, kv, vv, rfl, q1, c1, r1, r2⟩ := rd_dct S rv e1
      obtain ⟨u, rfl, ru⟩ := vals1 r
      cases ru
      exact dd_len hw I q1 c1 r1 fun t s' I' => ⟨.int ks.length, H, I', ⟨t, rfl⟩, Wp.here S h _ (.int _)⟩
    · exact h.elim
  · exact h.elim
theorem bi_tuple : CallR X (.type "tuple") (rM X.K tupleM) := by
  intro pins s σ H xs us Q I r ⟨Xk, mu, g, ds, S, rs, h⟩
  unfold tupleM at h
  split at h
  · obtain ⟨v, rfl, rv⟩ := rs.one
    try dsimp only at h
    split at h
    · rename_i e1
      have e2 := rd_tup_eq e1
      subst e2
      obtain ⟨a, vs, rfl, q1, r1⟩ := rd_tup rv e1
      exact call_tuple_of pins s σ H _ us Q I r ⟨a, vs, rfl, .inr ⟨q1, Wp.here S h _ rv⟩⟩
    · rename_i e1
      obtain ⟨a, vs, rfl, q1, r1⟩ := rd_lst S rv e1
      exact call_tuple_of pins s σ H _ us Q I r ⟨a, vs, rfl, .inl ⟨q1, Kt.newTup S r1 h⟩⟩
    · exact h.elim
  · exact h.elim
theorem call_list_dR (hc : X.calm = true) : CallR X (.type "list") (fun xs H Q => ∃ p kvs, xs = [.ref p] ∧ Rd H p (.dK kvs) ∧ ∀ q, H q = none → Q (.ref q) (upd H q (.lst (kvs.map fun kv => kV kv.1)))) := by
  intro pins s σ H xs us Q I r h
  obtain ⟨p, kvs, e, hk, q⟩ := h
  subst e
  obtain ⟨u, eu, rx⟩ := vals1 r
  subst eu
  obtain rfl : u = Value.ref p := rx
  obtain ⟨z, lo, vs, rk, hd⟩ := dk_rd I.hok hk
  obtain ⟨ep, hat⟩ := hd.dictAt
  have hl : kvs.length = vs.length := Paired.length rk
  refine PySem.W.kdl_call (PySem.W.kdl_dict (knd := mixKind X.prog X.w) (kvs := vs) (ep := ep) lo) (I.ok.hd hc) hat (by rw [← hl]; exact z) fun h' tk acc' c' hkeep hS hacc => ?_
  refine ⟨.ref s.heap.objs.size, upd H s.heap.objs.size (.lst (kvs.map fun kv => kV kv.1)), I.laid hkeep (Nat.le_refl _) (show ObjOk X.prog X.w _ _ _ (.lst (kvs.map fun kv => kV kv.1)) from ⟨?_, acc'.toList, c', ?_, ?_⟩), rfl, q _ (I.hok.fresh (Nat.le_refl _))⟩
  · rw [List.length_map]; exact z
  · have el : acc'.toList.length = acc'.size := by simp
    refine vals_of_at (by rw [List.length_map, el, hacc.1, hl]) fun j x w h1 h2 => ?_
    obtain ⟨k, y, hky, hi⟩ := hacc.2 j w (by rw [← Array.getElem?_toList]; exact h2)
    have e1 : (kvs.map (·.1))[j]? = some k := by
      rw [KV.keys rk, List.getElem?_map, hky] <;> rfl
    have e2 : (kvs.map fun kv => kV kv.1)[j]? = some (kV k) := by
      have e3 : (kvs.map fun kv => kV kv.1) = (kvs.map (·.1)).map kV := by rw [List.map_map] <;> rfl
      rw [e3, List.getElem?_map, e1] <;> rfl
    rw [e2] at h1
    cases h1
    exact keyIs_rel hi
  · rw [Array.toArray_toList]; exact hS
theorem bi_list {fz : Bool} (hc : X.calm = true) : CallR X (.type "list") (rM X.K (listM fz)) := by
  intro pins s σ H xs us Q I r ⟨Xk, mu, g, ds, S, rs, h⟩
  unfold listM at h
  split at h
  · obtain ⟨v, rfl, rv⟩ := rs.one
    try dsimp only at h
    split at h
    · rename_i e1
      obtain ⟨a, vs, rfl, q1, r1⟩ := rd_tup rv e1
      exact call_list_of pins s σ H _ us Q I r ⟨a, vs, rfl, .inr q1, Kt.mkLst S r1 h⟩
    · rename_i e1
      obtain ⟨a, vs, rfl, q1, r1⟩ := rd_lst S rv e1
      exact call_list_of pins s σ H _ us Q I r ⟨a, vs, rfl, .inl q1, Kt.mkLst S r1 h⟩
    · rename_i e1
      split at h
      · rename_i ha
        obtain ⟨a, kvs, rfl, q1, r1, r2⟩ := rd_dctK S rv e1 ha
        exact call_list_dR hc pins s σ H _ us Q I r ⟨a, kvs, rfl, q1, Kt.mkLst S r1 h⟩
      · exact h.elim
    · exact h.elim
  · exact h.elim
theorem bi_min2 (hc : X.calm = true) : CallR X (.builtin "min") (rM X.K min2M) := by
  intro pins s σ H xs us Q I r ⟨Xk, mu, g, ds, S, rs, h⟩
  unfold min2M at h
  split at h
  · obtain ⟨v, w, rfl, r1, r2⟩ := rs.two
    exact call_min2 hc pins s σ H _ us Q I r ⟨_, _, by rw [r1.int_inv, r2.int_inv], Wp.here S h _ (.int _)⟩
  · exact h.elim
theorem bi_max2 (hc : X.calm = true) : CallR X (.builtin "max") (rM X.K max2M) := by
  intro pins s σ H xs us Q I r ⟨Xk, mu, g, ds, S, rs, h⟩
  unfold max2M at h
  split at h
  · obtain ⟨v, w, rfl, r1, r2⟩ := rs.two
    exact call_max2 hc pins s σ H _ us Q I r ⟨_, _, by rw [r1.int_inv, r2.int_inv], Wp.here S h _ (.int _)⟩
  · exact h.elim
theorem bi_abs : CallR X (.builtin "abs") (rM X.K absM) := by
  intro pins s σ H xs us Q I r ⟨Xk, mu, g, ds, S, rs, h⟩
  unfold absM at h
  split at h
  · obtain ⟨v, rfl, r1⟩ := rs.one
    exact call_abs pins s σ H _ us Q I r ⟨_, by rw [r1.int_inv], Wp.here S h _ (.int _)⟩
  · exact h.elim
theorem bi_strI : CallR X (.type "str") (rM X.K strIM) := by
  intro pins s σ H xs us Q I r ⟨Xk, mu, g, ds, S, rs, h⟩
  unfold strIM at h
  split at h
  · obtain ⟨v, rfl, r1⟩ := rs.one
    split at h
    · exact call_str_int pins s σ H _ us Q I r ⟨_, by rw [r1.int_inv], by assumption, Wp.here S h _ (.str _)⟩
    · exact h.elim
  · exact h.elim
theorem bi_bools {id : String} {f : List Bool → Bool} (hf : CallR X (.builtin id) (fun vs H Q => ∃ (a : Addr) (bs : List Bool), vs = [V.ref a] ∧ SqL X.K H a (bs.map V.bl) ∧ Q (.bl (f bs)) H)) : CallR X (.builtin id) (rM X.K (ofBools fun bs => .bl (f bs))) := by
  intro pins s σ H xs us Q I r ⟨Xk, mu, g, ds, S, rs, h⟩
  unfold ofBools at h
  split at h
  · obtain ⟨v, rfl, rv⟩ := rs.one
    try dsimp only at h
    split at h
    · rename_i e1
      obtain ⟨a, vs, rfl, q1, r1⟩ := rd_lst S rv e1
      split at h
      · rename_i e2
        rw [r1.bools e2] at q1
        exact hf pins s σ H _ us Q I r ⟨a, _, rfl, q1, Wp.here S h _ (.bl _)⟩
      · exact h.elim
    · exact h.elim
  · exact h.elim
theorem bi_sum (hc : X.calm = true) : CallR X (.builtin "sum") (rM X.K (ofInts fun ns => pure (.int ns.sum))) := by
  intro pins s σ H xs us Q I r ⟨Xk, mu, g, ds, S, rs, h⟩
  unfold ofInts at h
  split at h
  · obtain ⟨v, rfl, rv⟩ := rs.one
    try dsimp only at h
    split at h
    · rename_i e1
      obtain ⟨a, vs, rfl, q1, r1⟩ := rd_lst S rv e1
      split at h
      · rename_i e2
        rw [r1.ints e2] at q1
        exact cr_sum hc pins s σ H _ us Q I r ⟨a, _, rfl, q1, Wp.here S h _ (.int _)⟩
      · exact h.elim
    · exact h.elim
  · exact h.elim
theorem insI_perm (i : Int) : ∀ ns : List Int, (insI i ns).Perm (i :: ns)
  | [] => .refl _
  | j :: r => by
    unfold insI
    split
    · exact .refl _
    · exact ((insI_perm i r).cons j).trans (.swap ..)
theorem sortI_perm : ∀ ns : List Int, (sortI ns).Perm ns
  | [] => .refl _
  | i :: r => (insI_perm i _).trans ((sortI_perm r).cons i)
theorem insI_sorted (i : Int) : ∀ {ns : List Int}, ns.Pairwise (· ≤ ·) → (insI i ns).Pairwise (· ≤ ·)
  | [], _ => by simp [insI]
  | j :: r, h => by
    unfold insI
    split
    · rename_i hij
      refine List.Pairwise.cons (fun x hx => ?_) h
      rcases List.mem_cons.mp hx with e | hx
      · subst e; exact hij
      · exact Int.le_trans hij ((List.pairwise_cons.mp h).1 x hx)
    · rename_i hij
      refine List.Pairwise.cons (fun x hx => ?_) (insI_sorted i (List.pairwise_cons.mp h).2)
      rcases List.mem_cons.mp ((insI_perm i r).mem_iff.mp hx) with e | hx
      · subst e; omega
      · exact (List.pairwise_cons.mp h).1 x hx
theorem sortI_sorted : ∀ ns : List Int, (sortI ns).Pairwise (· ≤ ·)
  | [] => .nil
  | i :: r => insI_sorted i (sortI_sorted r)
theorem sorted_eq : ∀ {xs ys : List Int}, xs.Perm ys → xs.Pairwise (· ≤ ·) → ys.Pairwise (· ≤ ·) → xs = ys
  | [], ys, p, _, _ => (List.Perm.nil_eq p)
  | x :: xs, [], p, _, _ => absurd p.length_eq (by simp)
  | x :: xs, y :: ys, p, hx, hy => by
    have h1 := List.pairwise_cons.mp hx
    have h2 := List.pairwise_cons.mp hy
    have e : x = y := by
      have a1 : x ∈ y :: ys := p.mem_iff.mp (List.mem_cons_self ..)
      have a2 : y ∈ x :: xs := p.mem_iff.mpr (List.mem_cons_self ..)
      have b1 : y ≤ x := by
        rcases List.mem_cons.mp a1 with e | q
        · omega
        · exact h2.1 x q
      have b2 : x ≤ y := by
        rcases List.mem_cons.mp a2 with e | q
        · omega
        · exact h1.1 y q
      omega
    subst e
    rw [sorted_eq ((List.perm_cons x).mp p) h1.2 h2.2]
theorem RVs.ofInts {K : PySem.W.Frag} {own : Addr → Prop} {mu : List Addr} {H : Hp} : ∀ ns : List Int, RVs K own mu H (ns.map V.int) (ns.map D.int)
  | [] => .nil
  | _ :: r => .cons (.int _) (RVs.ofInts r)
theorem bi_sortI {fz : Bool} : CallR X (.builtin "sorted") (rM X.K (DL.ofInts (sortM fz))) := by
  intro pins s σ H xs us Q I r ⟨Xk, mu, g, ds, S, rs, h⟩
  unfold DL.ofInts at h
  split at h
  · obtain ⟨v, rfl, rv⟩ := rs.one
    try dsimp only at h
    split at h
    · rename_i e1
      obtain ⟨a, vs, rfl, q1, r1⟩ := rd_lst S rv e1
      split at h
      · rename_i ns e2
        rw [r1.ints e2] at q1
        unfold sortM at h
        split at h
        · rename_i h64
          refine cr_sorted pins s σ H _ us Q I r ⟨a, ns, rfl, q1, h64, fun ns' p hp hs hn => ?_⟩
          have e3 : ns' = sortI ns := sorted_eq (hp.trans (sortI_perm ns).symm) hs (sortI_sorted ns)
          subst e3
          exact Kt.mkLst S (RVs.ofInts _) h p hn
        · exact h.elim
      · exact h.elim
    · exact h.elim
  · exact h.elim
end

/-! ### t[::-1], xs * k -/
section
variable {X : Cx} {W : WX} {a b : Expr} {Fa Fb : FE} {pos : Pos}
theorem RVs.rev {K : PySem.W.Frag} {own : Addr → Prop} {mu : List Addr} {H : Hp} : ∀ {ds : List D} {vs : List V}, RVs K own mu H vs ds → RVs K own mu H vs.reverse ds.reverse
  | _, _, .nil => .nil
  | _, _, .cons h t => by
    rw [List.reverse_cons, List.reverse_cons]
    exact t.rev.append (.cons h .nil)
theorem s_rev {k : Nat} {p1 p2 p3 : Pos} (ha : PE X a (tE X.K W Fa)) : PE X (.Subscript a (.Slice none none (some (.UnaryOp .USub (.Constant (.int 1) k p1) p2)) p3) pos) (tE X.K W fun ρ => do
    let x ← Fa ρ
    revM x) :=
  pe_mono (pe_revT ha) fun σ H Q ⟨mu, g, ρ, S, R, h⟩ => ⟨mu, g, ρ, S, R, (Wp.bd h).mono fun mu1 g1 H1 d1 e1 S1 h1 v1 r1 => by
    cases d1 with
    | tup xs =>
      obtain ⟨a, vs, rfl, q, r⟩ := rd_tup (g := g1) r1 rfl
      exact ⟨a, vs, rfl, q, Kt.newTup S1 r.rev h1⟩
    | _ => exact h1.elim⟩
theorem RVs.flat {K : PySem.W.Frag} {own : Addr → Prop} {mu : List Addr} {H : Hp} {ds : List D} {vs : List V} (r : RVs K own mu H vs ds) : ∀ n : Nat, RVs K own mu H (List.replicate n vs).flatten (List.replicate n ds).flatten
  | 0 => .nil
  | n + 1 => by
    rw [List.replicate_succ, List.replicate_succ, List.flatten_cons, List.flatten_cons]
    exact r.append (r.flat n)
theorem s_rep {fz : Bool} (ha : PE X a (tE X.K W Fa)) (hb : PE X b (tE X.K W Fb)) : PE X (.BinOp a .Mult b pos) (tE X.K W fun ρ => do
    let x ← Fa ρ
    let y ← Fb ρ
    repM fz x y) :=
  pe_mono (pe_op op_rep ha hb) fun σ H Q ⟨mu, g, ρ, S, R, h⟩ => ⟨mu, g, ρ, S, R, (Wp.bd h).mono fun mu1 g1 H1 d1 e1 S1 h1 v1 r1 => ⟨mu1, g1, ρ, S1, R.ext e1, (Wp.bd h1).mono fun mu2 g2 H2 d2 e2 S2 h2 v2 r2 => by
    unfold repM at h2
    split at h2
    · rename_i n
      have r1' := r1.ext e2
      cases r1' with
      | ref hm =>
        split at h2
        · rename_i xs hg
          obtain ⟨vs, hH, rs⟩ := S2.at_ n _ _ hg hm
          split at h2
          · rename_i k
            split at h2
            · rename_i hc
              obtain ⟨c1, c2, c3⟩ := hc
              exact ⟨_, k, vs, rfl, r2.int_inv, hH, c1, c2, by rw [rs.length]; exact c3, Kt.mkLst S2 (rs.flat k.toNat) h2⟩
            · exact h2.elim
          · exact h2.elim
        · exact h2.elim
    · exact h2.elim⟩⟩
end

/-! ### dicts alike -/
section
variable {X : Cx}
theorem flatEq_ok {K : PySem.W.Frag} {own : Addr → Prop} {mu : List Addr} {H : Hp} {d e : D} {v w : V} (h : flatEq d e = true) (rv : RV K own mu H v d) (rw' : RV K own mu H w e) : v = w ∧ flatB v = true := by
  unfold flatEq at h
  split at h
  · cases rv; cases rw'; exact ⟨rfl, rfl⟩
  · have := eq_of_beq h; subst this; cases rv; cases rw'; exact ⟨rfl, rfl⟩
  · have := of_decide_eq_true h; subst this; cases rv; cases rw'; exact ⟨rfl, rfl⟩
  · have := of_decide_eq_true h; subst this; cases rv; cases rw'; exact ⟨rfl, rfl⟩
  · cases h
theorem eqDct_ok {K : PySem.W.Frag} {own : Addr → Prop} {mu : List Addr} {H : Hp} {ls : List (Key × V)} {ks' vs' : List D} (l1 : RVs K own mu H (ls.map fun p => kV p.1) ks') (l2 : RVs K own mu H (ls.map (·.2)) vs') : ∀ {kvs : List (Key × V)} {ks vs : List D}, RVs K own mu H (kvs.map fun p => kV p.1) ks → RVs K own mu H (kvs.map (·.2)) vs → eqDct ks vs ks' vs' = true → ∀ p ∈ kvs, valV ls p.1 = some p.2 ∧ flatB p.2 = true
  | [], _, _, _, _, _, p, hp => by cases hp
  | (k0, v0) :: kvs, _, _, r, r', h, p, hp => by
    cases r with
    | cons a t =>
      cases r' with
      | cons b t' =>
        simp only [eqDct, Bool.and_eq_true] at h
        obtain ⟨h1, h2⟩ := h
        rcases List.mem_cons.mp hp with rfl | hp
        · split at h1
          · rename_i k ek
            split at h1
            · rename_i v' ev
              have e3 := a.key'
              subst e3
              rw [keyOf_dOf] at ek
              cases ek
              rcases dlook_ok (k := k0) l1 l2 with ⟨d1, v1, q1, q2, q3⟩ | ⟨q1, q2⟩
              · rw [ev] at q1
                cases q1
                obtain ⟨e6, e7⟩ := flatEq_ok h1 b q3
                exact ⟨by rw [q2]; exact congrArg some e6.symm, e7⟩
              · rw [ev] at q1; cases q1
            · cases h1
          · cases h1
        · exact eqDct_ok l1 l2 t t' h2 p hp
theorem deq_ok (hu : X.A.units + 64 < cLine) : OpR X (compareOp .Eq) (rF2 X.K fun d e => (deqD d e).map D.bl) := by
  intro pins s σ H x y v u Q I rx ry ⟨mu, g, d, e, z, S, hx, hy, h, k⟩
  obtain ⟨b, hb, rfl⟩ := Option.map_eq_some_iff.mp h
  have kb : Q (.bl b) H := k.flat S (.bl _)
  unfold deqD at hb
  split at hb
  · rename_i ks vs ks' vs' e1 e2
    split at hb
    · rename_i hc
      obtain ⟨ha, hc⟩ := hc
      simp only [Bool.and_eq_true] at ha
      obtain ⟨a, kvs, rfl, q1, r1, r2⟩ := rd_dctK S hx e1 ha.1
      obtain ⟨a', kvs', rfl, q1', r1', r2'⟩ := rd_dctK S hy e2 ha.2
      cases hb
      cases rx
      cases ry
      have hp := eqDct_ok r1' r2' r1 r2 hc.2
      have hlen : kvs.length = kvs'.length := by
        have a1 := r1.length
        have a2 := r1'.length
        rw [List.length_map] at a1 a2
        omega
      obtain ⟨_, ya, va, ra, da⟩ := dk_rd I.hok q1
      obtain ⟨_, yb, vb, rb, db⟩ := dk_rd I.hok q1'
      have hl : va.length = vb.length := by
        rw [← Paired.length ra, ← Paired.length rb]; exact hlen
      exact PySem.W.keq_eq ya yb da db (by omega) (fun _ => hits_all rb ra hp) (fin_bl I kb (by simp [hl]))
    · cases hb
  · cases hb
end
end DL

set_option Elab.async false
set_option linter.all false
set_option maxRecDepth 100000
set_option maxHeartbeats 4000000
/-! the deep layer: calls of built-in functions and methods, attributes, displays of dicts -/
namespace DL
open PySem PySem.Spec PyProof.Rows L2
variable [Wd]

section
variable {X : Cx} {W : WX} {a b c e o : Expr} {es : List Expr} {Fa Fb Fc Fo : FE} {Fs : Env' → M (List D)} {pos p : Pos} {x : Str} {id T : String} {m : List D → M D}
theorem wp_none {α : Type} {K : PySem.W.Frag} {Xk : XK} {mu : List Addr} {g : G} {H : Hp} {r : R α} {Q : List Addr → G → Hp → α → Prop} (h : Wp K Xk mu g H r Q) : ∃ Xk, Wp K Xk mu g H r Q := ⟨Xk, h⟩
theorem s_biB (hc : CallR X (.builtin id) (rM X.K m)) (hg : Gl X x) (hm : X.mg x = none) (hv : bootBuiltins x = some (.builtin id)) (ha : PA X (e :: es) (tA X.K W Fs)) (hn : x ≠ "__name__") (hdb : (x == ("__debug__" : Str)) = false)
    (he : starEach (e :: es) X.env = (false, eval e X.env) :: starEach es X.env) (hpl : (backTo pos (starEach es X.env)).any (·.1) = false) : PE X (.Call (.Name x p) (e :: es) [] pos) (tE X.K W fun ρ => do
    let ds ← Fs ρ
    m ds) :=
  pe_mono (pe_callB hc hg hm hv ha hn hdb he hpl) fun σ H Q ⟨mu, g, ρ, S, R, h⟩ => ⟨mu, g, ρ, S, R, (Wp.bd h).mono fun mu1 g1 H1 ds e1 S1 h1 vs rs => ⟨_, mu1, g1, ds, S1, rs, h1⟩⟩
theorem s_biT (hc : CallR X (.type T) (rM X.K m)) (hg : Gl X x) (hm : X.mg x = none) (hv : bootBuiltins x = some (.type T)) (ha : PA X (e :: es) (tA X.K W Fs)) (hn : x ≠ "__name__") (hdb : (x == ("__debug__" : Str)) = false)
    (he : starEach (e :: es) X.env = (false, eval e X.env) :: starEach es X.env) (hpl : (backTo pos (starEach es X.env)).any (·.1) = false) : PE X (.Call (.Name x p) (e :: es) [] pos) (tE X.K W fun ρ => do
    let ds ← Fs ρ
    m ds) :=
  pe_mono (pe_callTy hc hg hm hv ha hn hdb he hpl) fun σ H Q ⟨mu, g, ρ, S, R, h⟩ => ⟨mu, g, ρ, S, R, (Wp.bd h).mono fun mu1 g1 H1 ds e1 S1 h1 vs rs => ⟨_, mu1, g1, ds, S1, rs, h1⟩⟩

/-! ### isinstance -/
def tyN : D → Option String
  | .non => some "NoneType" | .bl _ => some "bool" | .int _ => some "int" | .str _ => some "str" | .tup _ => some "tuple" | .lst _ => some "list" | .dct ks _ => if atomsB ks = true then some "dict" else none | _ => none
theorem ty_of {K : PySem.W.Frag} {mu : List Addr} {g : G} {H : Hp} {v : V} {d : D} {n : String} (S : Sim K mu g H) (h : RV K (Own mu g) mu H v d) (e : tyN (rd g d) = some n) : TyX K H v (.type n) := by
  unfold tyN at e
  split at e
  · rename_i e1; cases e; rw [rd_non h e1]; exact .base .non
  · rename_i e1; cases e; rw [rd_bl h e1]; exact .base (.bl _)
  · rename_i e1; cases e; rw [rd_int h e1]; exact .base (.int _)
  · rename_i e1; cases e; rw [rd_str h e1]; exact .base (.str _)
  · rename_i e1; cases e; obtain ⟨a, vs, rfl, q, r⟩ := rd_tup h e1
    rcases q with (q | ⟨o, q⟩) | ⟨o, its, n, q1, q2, _⟩
    · exact .base (.tup q)
    · exact .fTuple q
    · exact .kTuple q1 q2
  · rename_i e1; cases e; obtain ⟨a, vs, rfl, q, r⟩ := rd_lst S h e1
    rcases q with (q | ⟨o, q⟩) | ⟨o, its, n, q1, q2, _⟩
    · exact .base (.lst q)
    · exact .base (.frz q)
    · exact .kList q1 q2
  · rename_i ks vs e1
    split at e
    · rename_i ha
      cases e; obtain ⟨a, kvs, rfl, q, r⟩ := rd_dctK S h e1 ha
      rcases q with q | ⟨o, q⟩
      · exact .base (.dK q)
      · exact .fDict q
    · cases e
  · cases e
/-- the class as a value -/
def tyS : Ty → String
  | .bool => "bool" | .int => "int" | .str => "str" | .tuple => "tuple" | .list => "list" | .dict => "dict"
theorem isi_kit {d : D} {t : Ty} {b : Bool} (h : isiB d t = some b) : ∃ n, tyN d = some n ∧ kitB n (tyS t) = some b := by
  cases d with
  | dct ks vs =>
    cases t <;> simp only [isiB] at h <;> split at h <;> first | cases h | skip
    all_goals
      rename_i ha
      refine ⟨"dict", by unfold tyN; exact if_pos ha, ?_⟩
      decide +kernel
  | _ => cases t <;> simp only [isiB] at h <;> cases h <;> refine ⟨_, rfl, ?_⟩ <;> decide +kernel
theorem isiAny_kit {K : PySem.W.Frag} {d : D} : ∀ {ts : List Ty} {b : Bool}, isiAny d ts = some b → ts ≠ [] → ∃ n, tyN d = some n ∧ PySem.W.kitAny K (.type n) (ts.map fun t => Value.type (tyS t)) = some b
  | [], _, h, q => absurd rfl q
  | t :: ts, b, h, _ => by
    unfold isiAny at h
    split at h
    · rename_i e
      cases h
      obtain ⟨n, h1, h3⟩ := isi_kit e
      exact ⟨n, h1, kitAny_cons (kit_ty h3) (fun z => nomatch z) fun _ => rfl⟩
    · rename_i e
      obtain ⟨n, h1, h3⟩ := isi_kit e
      by_cases hn : ts = []
      · subst hn
        cases h
        exact ⟨n, h1, kitAny_cons (kit_ty h3) (fun _ => kitAny_nil) fun z => nomatch z⟩
      · obtain ⟨n', k1, k3⟩ := isiAny_kit (K := K) h hn
        rw [h1] at k1
        cases k1
        exact ⟨n, h1, kitAny_cons (kit_ty h3) (fun _ => k3) fun z => nomatch z⟩
    · cases h
/-- isinstance(a, T) -/
theorem s_isi1 {t : Ty} {te : Expr} (hg : Gl X "isinstance") (hm : X.mg "isinstance" = none) (ha : PE X a (tE X.K W Fa)) (ht : PE X te (tC (.ty (tyS t))))
    (h1 : starEach [a, te] X.env = (false, eval a X.env) :: starEach [te] X.env) (h2 : starEach [te] X.env = (false, eval te X.env) :: starEach [] X.env) : PE X (.Call (.Name "isinstance" p) [a, te] [] pos) (tE X.K W fun ρ => do
    let x ← Fa ρ
    let x ← rdM x
    let b ← optM (isiAny x [t])
    pure (.bl b)) :=
  pe_mono (pe_callB call_isi hg hm (by decide +kernel) (pa_cons ha (pa_cons ht pa_nil h2) h1) (by decide) (by decide) h1 (by rw [h2]; rfl)) fun σ H Q ⟨mu, g, ρ, S, R, h⟩ => ⟨mu, g, ρ, S, R, (Wp.bd h).mono fun mu1 g1 H1 d1 e1 S1 h1 v1 r1 => by
    obtain ⟨b, hb, k⟩ := Wp.optB (Wp.rdI h1)
    have hb' : isiB (rd g1 d1) t = some b := by
      unfold isiAny at hb
      split at hb
      · rename_i e; cases hb; exact e
      · rename_i e; cases hb; exact e
      · cases hb
    obtain ⟨n, k1, k2⟩ := isi_kit hb'
    exact ⟨v1, .ty (tyS t), .type n, .type (tyS t), b, rfl, .ty _, ty_of S1 r1 k1, kit_ty k2, Wp.here S1 k _ (.bl _)⟩⟩
theorem paired_tys : ∀ ts : List Ty, Paired ClsV (ts.map fun t => V.ty (tyS t)) (ts.map fun t => Value.type (tyS t))
  | [] => .nil
  | t :: ts => .cons (.ty _) (paired_tys ts)
theorem TyX.new {K : PySem.W.Frag} {mu : List Addr} {g : G} {H : Hp} {v : V} {d : D} {n : String} {q : Addr} {o : HO} (hq : H q = none) (S : Sim K mu g H) (r : RV K (Own mu g) mu H v d) (e : tyN (rd g d) = some n) : TyX K (upd H q o) v (.type n) :=
  ty_of (S.new hq) (r.ext (Ext.new hq)) e
/-- isinstance(a, (T, ..)) -/
theorem s_isiT {ts : List Ty} {tes : List Expr} {j : Nat} {tp : Pos} (hne : ts ≠ []) (hlen : ts.length ≤ sizeLine) (hg : Gl X "isinstance") (hm : X.mg "isinstance" = none) (ha : PE X a (tE X.K W Fa))
    (ht : PA X tes (fun σ H Q => Q (ts.map fun t => V.ty (tyS t)) H))
    (h1 : starEach [a, .Tuple tes j tp] X.env = (false, eval a X.env) :: starEach [.Tuple tes j tp] X.env) (h2 : starEach [.Tuple tes j tp] X.env = (false, eval (.Tuple tes j tp) X.env) :: starEach [] X.env) : PE X (.Call (.Name "isinstance" p) [a, .Tuple tes j tp] [] pos) (tE X.K W fun ρ => do
    let x ← Fa ρ
    let x ← rdM x
    let b ← optM (isiAny x ts)
    pure (.bl b)) :=
  pe_mono (pe_callB call_isiT hg hm (by decide +kernel) (pa_cons ha (pa_cons (pe_tup ht) pa_nil h2) h1) (by decide) (by decide) h1 (by rw [h2]; rfl)) fun σ H Q ⟨mu, g, ρ, S, R, h⟩ => ⟨mu, g, ρ, S, R, (Wp.bd h).mono fun mu1 g1 H1 d1 e1 S1 h1 v1 r1 => by
    refine ⟨by rw [List.length_map]; exact hlen, fun q hq => ?_⟩
    obtain ⟨b, hb, k⟩ := Wp.optB (Wp.rdI h1)
    obtain ⟨n, k1, k2⟩ := isiAny_kit (K := X.K) hb hne
    exact ⟨v1, q, ts.map fun t => V.ty (tyS t), .type n, ts.map fun t => Value.type (tyS t), b, rfl, upd_same, paired_tys ts, TyX.new hq S1 r1 k1, k2, Wp.here (S1.new hq) (Wp.ext (Ext.new hq) k) _ (.bl _)⟩⟩

/-! ### attributes -/
theorem flook_ok {K : PySem.W.Frag} {own : Addr → Prop} {mu : List Addr} {H : Hp} {f : Str} {d : D} : ∀ {fs : List (Str × V)} {ds : List D}, RVs K own mu H (fs.map (·.2)) ds → flook (fs.map (·.1)) ds f = some d → ∃ v, fs.lookup f = some v ∧ RV K own mu H v d
  | [], _, _, h => by simp [flook] at h
  | (n, v) :: fs, ds, r, h => by
    cases r with
    | @cons _ _ d0 ds r t =>
      simp only [List.map_cons, flook] at h
      by_cases e : n = f
      · subst e
        rw [if_pos rfl] at h
        cases h
        exact ⟨v, by simp [List.lookup_cons], r⟩
      · rw [if_neg e] at h
        obtain ⟨w, h1, h2⟩ := flook_ok t h
        refine ⟨w, ?_, h2⟩
        rw [List.lookup_cons, show (f == n) = false from beq_false_of_ne (Ne.symm e)]
        exact h1
def FldOk (X : Cx) (fld : Str → Str → Bool) : Prop := ∀ C f, fld C f = true → Cls X.K (He.ga X.K C) ∧ NoAttr X.K (He.ga X.K C) f
theorem s_fld {fld : Str → Str → Bool} {f : Str} (hf : FldOk X fld) (ha : PE X a (tE X.K W Fa)) (hb : attributeBase a f X.env (eval a X.env) = eval a X.env) : PE X (.Attribute a f pos) (tE X.K W fun ρ => do
    let x ← Fa ρ
    fldM fld x f) :=
  pe_mono (pe_fld ha hb) fun σ H Q ⟨mu, g, ρ, S, R, h⟩ => ⟨mu, g, ρ, S, R, (Wp.bd h).mono fun mu1 g1 H1 d1 e1 S1 h1 v1 r1 => by
    unfold fldM at h1
    split at h1
    · rename_i C ns vs e
      obtain ⟨a, dx, fs, rfl, q, rfl, r⟩ := rd_obj S1 r1 e
      split at h1
      · rename_i ef
        split at h1
        · rename_i d ed
          obtain ⟨w, w1, w2⟩ := flook_ok r ed
          exact ⟨a, _, dx, fs, w, rfl, q, (hf C f ef).1, (hf C f ef).2, w1, Wp.here S1 h1 _ w2⟩
        · exact h1.elim
      · exact h1.elim
    · exact h1.elim⟩
end

/-! ### methods of built-in types -/
def rMt (K : PySem.W.Frag) (m : D → List D → M D) : V → List V → Hp → VK → Prop := fun x xs H Q => ∃ Xk mu g d ds, Sim K mu g H ∧ RV K (Own mu g) mu H x d ∧ RVs K (Own mu g) mu H xs ds ∧ Wp K Xk mu g H (m d ds g) fun mu' g' H' d => ∀ v, RV K (Own mu' g') mu' H' v d → Q v H'
/-- the value is of the type T -/
def tyW (K : PySem.W.Frag) (T : String) (x : V) (H : Hp) : Prop := tyV K T x H ∨ (T = "dict" ∧ ∃ a, x = .ref a ∧ (IsD H a ∨ ∃ u kv vv ks, Rd H a u ∧ DctC a u kv vv ks))
section
variable {X : Cx} {W : WX} {a b c e o : Expr} {es : List Expr} {Fa Fb Fc Fo : FE} {Fs : Env' → M (List D)} {pos p apos cpos : Pos} {name : Str} {id T : String} {to : TE} {t : TA} {r : V → List V → Hp → VK → Prop}
theorem tyW_is {pins : List (Addr × Obj)} {σ : L2.St} {H : Hp} {s : Shared} {x : V} {v : Value} (I : Inv X pins σ H s) (r : RelV x v) (ty : tyW X.K T x H) :
    s.TypeIs v T ∧ ∀ a, v = .ref a → ∃ ob, s.heap.get? a = some ob ∧ ob.dict = none := by
  rcases ty with ty | ⟨rfl, a, rfl, d⟩
  · exact tyV_is I r ty
  · cases r
    rcases d with d | ⟨u, kv, vv, ks, d, c⟩
    · obtain ⟨t1, t2, _⟩ := isD_at I d
      exact ⟨t1, t2⟩
    · cases c with
      | k kvs =>
        obtain ⟨t1, t2, _⟩ := isD_at I (.inl ⟨kvs, d⟩)
        exact ⟨t1, t2⟩
      | t xs vv _ _ _ =>
        obtain ⟨⟨_, _, _, o, es, ep, h4, h5, h6, h7⟩, _⟩ := d.ok I.hok
        exact ⟨⟨o, h4, h5.1⟩, fun a' e => by
          cases e
          exact ⟨o, h4, h5.2.1⟩⟩
def tBW0 (K : PySem.W.Frag) (T : String) (r : V → List V → Hp → VK → Prop) (to : TE) : TE := fun σ H Q => to σ H fun x H1 => tyW K T x H1 ∧ r x [] H1 Q
def tBW (K : PySem.W.Frag) (T : String) (r : V → List V → Hp → VK → Prop) (to : TE) (t : TA) : TE := fun σ H Q => to σ H fun x H1 => tyW K T x H1 ∧ t σ H1 fun xs H2 => r x xs H2 Q
theorem pe_bw0 (pa : PlainAttrs T) (slot : Slot T name id) (hty : typeOf (.builtin id) = pure (.type "method_descriptor")) (hm : MtR X id r) (ho : PE X o to)
    (hbase : attributeBase o name X.env (eval o X.env) = eval o X.env) (hline : (apos.endLine == cpos.line) = true) : PE X (.Call (.Attribute o name apos) [] [] cpos) (tBW0 X.K T r to) := by
  refine ⟨fun pins s σ H Q I h => ?_⟩
  refine wpAny_Call_method0_late hbase hline (thn (ho.run pins s σ H _ I h) fun v s1 ⟨x, H1, I1, r1, ty, q1⟩ => ?_)
  obtain ⟨h1, h2⟩ := tyW_is I1 r1 ty
  exact ⟨T, id, pa, slot, hty, h1, h2, Calls.callWith_builtin rfl (PySem.evalArgs_none (hm pins s1 σ H1 x [] v [] Q I1 r1 .nil q1))⟩
theorem pe_bw (pa : PlainAttrs T) (slot : Slot T name id) (hty : typeOf (.builtin id) = pure (.type "method_descriptor")) (hm : MtR X id r) (ho : PE X o to) (ha : PA X (e :: es) t)
    (hbase : attributeBase o name X.env (eval o X.env) = eval o X.env)
    (hfew : ((backTo cpos (starEach (e :: es) X.env)).all (fun x => !x.1) && (backToKw cpos (keywordEach [] X.env)).all (fun x => x.1.isSome)
      && decide ((e :: es).length + ([] : List Keyword).length + (if ([] : List Keyword).isEmpty then 0 else 1) < 30)) = true)
    (hline : (apos.endLine == cpos.line) = true) (hs : starEach (e :: es) X.env = (false, eval e X.env) :: starEach es X.env) (hplain : (backTo cpos (starEach es X.env)).any (·.1) = false) :
    PE X (.Call (.Attribute o name apos) (e :: es) [] cpos) (tBW X.K T r to t) := by
  refine ⟨fun pins s σ H Q I h => ?_⟩
  refine wpAny_Call_method_late hbase hfew hline rfl (thn (ho.run pins s σ H _ I h) fun v s1 ⟨x, H1, I1, r1, ty, q1⟩ => ?_)
  obtain ⟨h1, h2⟩ := tyW_is I1 r1 ty
  refine ⟨T, id, pa, slot, hty, h1, h2, ?_⟩
  have hA := ha.run cpos pins s1 σ H1 _ I1 q1
  rw [hs] at hA ⊢
  refine Calls.callWith_builtin (by show (false || (backTo cpos (starEach es X.env)).any (·.1)) = false; rw [hplain] <;> rfl) (Calls.evalArgs_plain ?_)
  exact thn hA fun us s2 ⟨vs, H2, I2, r2, q2⟩ => hm pins s2 σ H2 x vs v us Q I2 r1 r2 q2
def mtT : Mt → String
  | .append => "list" | .pop => "list" | .get => "dict" | .join => "str" | .split _ => "str" | .upper => "str" | .extend => "list" | .clear => "list" | .count => "list"
theorem mtOk_ty {K : PySem.W.Frag} {mu : List Addr} {g : G} {H : Hp} {v : V} {d : D} {m : Mt} (S : Sim K mu g H) (h : RV K (Own mu g) mu H v d) (e : mtOk m (rd g d) = true) : tyW K (mtT m) v H := by
  unfold mtOk at e
  split at e
  · rename_i e1; obtain ⟨a, vs, rfl, q, _⟩ := rd_lst S h e1; exact .inl (.inl ⟨rfl, vs, q⟩)
  · rename_i e1; obtain ⟨a, vs, rfl, q, _⟩ := rd_lst S h e1; exact .inl (.inl ⟨rfl, vs, q⟩)
  · rename_i e1; obtain ⟨a, u, kv, vv, rfl, q, c, _⟩ := rd_dct S h e1; exact .inr ⟨rfl, a, rfl, .inr ⟨u, kv, vv, _, q, c⟩⟩
  · rename_i e1; rw [rd_str h e1]; exact .inl rfl
  · rename_i e1; rw [rd_str h e1]; exact .inl rfl
  · rename_i e1; rw [rd_str h e1]; exact .inl rfl
  · rename_i e1; obtain ⟨a, vs, rfl, q, _⟩ := rd_lst S h e1; exact .inl (.inl ⟨rfl, vs, q⟩)
  · rename_i e1; obtain ⟨a, vs, rfl, q, _⟩ := rd_lst S h e1; exact .inl (.inl ⟨rfl, vs, q⟩)
  · rename_i e1; obtain ⟨a, vs, rfl, q, _⟩ := rd_lst S h e1; exact .inl (.inl ⟨rfl, vs, q⟩)
  · cases e
/-- what is asked of a method -/
structure MtI (X : Cx) (m : Mt) (name : Str) (id : String) : Prop where
  pa : PlainAttrs (mtT m)
  sl : Slot (mtT m) name id
  ty : typeOf (.builtin id) = pure (.type "method_descriptor")
  mt : MtR X id (rMt X.K (mtM m))
theorem s_mt0 {m : Mt} (i : MtI X m name id) (ho : PE X o (tE X.K W Fo)) (hbase : attributeBase o name X.env (eval o X.env) = eval o X.env) (hline : (apos.endLine == cpos.line) = true) : PE X (.Call (.Attribute o name apos) [] [] cpos) (tE X.K W fun ρ => do
    let x ← Fo ρ
    let x' ← rdM x
    needM (mtOk m x' = true)
    let ds ← (pure [] : M (List D))
    mtM m x ds) :=
  pe_mono (pe_bw0 i.pa i.sl i.ty i.mt ho hbase hline) fun σ H Q ⟨mu, g, ρ, S, R, h⟩ => ⟨mu, g, ρ, S, R, (Wp.bd h).mono fun mu1 g1 H1 d1 e1 S1 h1 v1 r1 => by
    obtain ⟨hc, k⟩ := Wp.needI (Wp.rdI h1)
    exact ⟨mtOk_ty S1 r1 hc, ⟨_, mu1, g1, d1, [], S1, r1, .nil, k⟩⟩⟩
theorem s_mt {m : Mt} (i : MtI X m name id) (ho : PE X o (tE X.K W Fo)) (ha : PA X (e :: es) (tA X.K W Fs)) (hbase : attributeBase o name X.env (eval o X.env) = eval o X.env)
    (hfew : ((backTo cpos (starEach (e :: es) X.env)).all (fun x => !x.1) && (backToKw cpos (keywordEach [] X.env)).all (fun x => x.1.isSome)
      && decide ((e :: es).length + ([] : List Keyword).length + (if ([] : List Keyword).isEmpty then 0 else 1) < 30)) = true)
    (hline : (apos.endLine == cpos.line) = true) (hs : starEach (e :: es) X.env = (false, eval e X.env) :: starEach es X.env) (hplain : (backTo cpos (starEach es X.env)).any (·.1) = false) : PE X (.Call (.Attribute o name apos) (e :: es) [] cpos) (tE X.K W fun ρ => do
    let x ← Fo ρ
    let x' ← rdM x
    needM (mtOk m x' = true)
    let ds ← Fs ρ
    mtM m x ds) :=
  pe_mono (pe_bw i.pa i.sl i.ty i.mt ho ha hbase hfew hline hs hplain) fun σ H Q ⟨mu, g, ρ, S, R, h⟩ => ⟨mu, g, ρ, S, R, (Wp.bd h).mono fun mu1 g1 H1 d1 e1 S1 h1 v1 r1 => by
    obtain ⟨hc, k⟩ := Wp.needI (Wp.rdI h1)
    exact ⟨mtOk_ty S1 r1 hc, ⟨mu1, g1, ρ, S1, R.ext e1, (Wp.bd k).mono fun mu2 g2 H2 ds e2 S2 h2 vs rs => ⟨_, mu2, g2, d1, ds, S2, r1.ext e2, rs, h2⟩⟩⟩⟩
theorem OR.lst_inv {K : PySem.W.Frag} {own : Addr → Prop} {mu : List Addr} {H : Hp} {a : Addr} {ds : List D} (h : OR K own mu H a (.lst ds)) : ∃ vs, H a = some (.lst vs) ∧ RVs K own mu H vs ds := h
theorem OR.setL {K : PySem.W.Frag} {mu : List Addr} {g : G} {H : Hp} {n : Nat} {p : Addr} {x : O} {vs : List V} {ds : List D} (hx : g[n]? = some x) (hl : x.live = true) (hm : mu[n]? = some p) (r : RVs K (Own mu g) mu H vs ds) : OR K (Own mu (g.set n (.lst ds))) mu (upd H p (.lst vs)) p (.lst ds) :=
  ⟨vs, upd_same, r.ext (Ext.set (y := .lst ds) (o := .lst vs) hx hl hm)⟩
/-- a list is changed -/
theorem Sim.setL {K : PySem.W.Frag} {mu : List Addr} {g : G} {H : Hp} {n : Nat} {p : Addr} {x : O} {vs : List V} {ds : List D} (S : Sim K mu g H) (hx : g[n]? = some x) (hl : x.live = true) (hm : mu[n]? = some p) (r : RVs K (Own mu g) mu H vs ds) : Sim K mu (g.set n (.lst ds)) (upd H p (.lst vs)) :=
  S.set hx hl hm (OR.setL hx hl hm r)
theorem RV.ref_inv {K : PySem.W.Frag} {own : Addr → Prop} {mu : List Addr} {H : Hp} {v : V} {n : Nat} (h : RV K own mu H v (.ref n)) : ∃ a, v = .ref a ∧ mu[n]? = some a := by
  cases h with
  | ref h => exact ⟨_, rfl, h⟩
theorem RVs.dropLast {K : PySem.W.Frag} {own : Addr → Prop} {mu : List Addr} {H : Hp} : ∀ {ds : List D} {vs : List V}, RVs K own mu H vs ds → RVs K own mu H vs.dropLast ds.dropLast
  | _, _, .nil => .nil
  | _, _, .cons h .nil => .nil
  | _, _, .cons h (.cons h2 t) => .cons h (RVs.dropLast (.cons h2 t))
theorem RVs.strs {K : PySem.W.Frag} {own : Addr → Prop} {mu : List Addr} {H : Hp} : ∀ {ds : List D} {vs : List V} {ns : List Str}, RVs K own mu H vs ds → strsOf ds = some ns → vs = ns.map V.str
  | [], _, ns, r, h => by cases r; cases h; rfl
  | d :: ds, _, ns, r, h => by
    cases r with
    | cons r t =>
      cases d with
      | str x =>
        simp only [strsOf] at h
        obtain ⟨ys, h1, rfl⟩ := Option.map_eq_some_iff.mp h
        rw [t.strs h1, r.str_inv]; rfl
      | _ => cases h
theorem mi_append : MtI X .append "append" "list.append" := ⟨PySem.F.plainAttrs_list, PySem.F.slot_list_append, PySem.F.type_list_append, by
  intro pins s σ H x xs v us Q I rx rs ⟨Xk, mu, g, d, ds, S, r, r2, h⟩
  simp only [mtM] at h
  unfold appendM at h
  split at h
  · obtain ⟨w, rfl, rw'⟩ := r2.one
    try dsimp only at h
    split at h
    · rename_i y n
      obtain ⟨a, rfl, hm⟩ := r.ref_inv
      split at h
      · rename_i ys hg
        split at h
        · rename_i hz
          obtain ⟨vs, hH, rvs⟩ := S.at_ n _ a hg hm
          have hl := rvs.length
          have rn := rvs.append (RVs.cons rw' .nil)
          exact mt_append pins s σ H _ _ v us Q I rx rs ⟨a, vs, w, rfl, rfl, hH, by omega, h _ _ (Ext.set hg rfl hm) (S.setL hg rfl hm rn) _ .non⟩
        · exact h.elim
      · exact h.elim
    · exact h.elim
  · exact h.elim⟩
theorem mi_pop : MtI X .pop "pop" "list.pop" := ⟨PySem.F.plainAttrs_list, PySem.F.slot_list_pop, PySem.F.type_list_pop, by
  intro pins s σ H x xs v us Q I rx rs ⟨Xk, mu, g, d, ds, S, r, r2, h⟩
  simp only [mtM] at h
  unfold popM at h
  split at h
  · have := r2.nil_inv
    subst this
    try dsimp only at h
    split at h
    · rename_i n
      obtain ⟨a, rfl, hm⟩ := r.ref_inv
      split at h
      · rename_i ys hg
        split at h
        · rename_i y hy
          obtain ⟨vs, hH, rvs⟩ := S.at_ n _ a hg hm
          have hl := rvs.length
          obtain ⟨w, w1, w2⟩ := rvs.get hy
          exact mt_pop pins s σ H _ _ v us Q I rx rs ⟨a, vs, w, rfl, rfl, hH, by rw [hl]; exact w1, h _ _ (Ext.set hg rfl hm) (S.setL hg rfl hm rvs.dropLast) _ (w2.ext (Ext.set hg rfl hm))⟩
        · exact h.elim
      · exact h.elim
    · exact h.elim
  · exact h.elim⟩
theorem mi_get (hw : X.w = Wd.w) (hu : X.A.units + 64 < cLine) : MtI X .get "get" "dict.get" := ⟨PySem.F.plainAttrs_dict, PySem.F.slot_dict_get, PySem.F.type_dict_get, by
  intro pins s σ H x xs v us Q I rx rs ⟨Xk, mu, g, d, ds, S, r, r2, h⟩
  simp only [mtM] at h
  unfold getM at h
  split at h
  · obtain ⟨w, rfl, rw'⟩ := r2.one
    try dsimp only at h
    split at h
    · rename_i y ks vs e1
      split at h
      · rename_i k ek
        split at h
        · rename_i hok
          obtain ⟨a, u0, kv, vv, rfl, q, c, q1, q2⟩ := rd_dct S r e1
          cases rx
          obtain ⟨u, rfl, ru⟩ := vals1 rs
          have e3 := kOf_kD ek
          rw [e3] at rw'
          exact dd_get (vx := .non) (ux := .none) (dflt := .non) hw hu I q ⟨c, q1, q2, rw', hok⟩ ru (.inl ⟨rfl, rfl, rfl, rfl⟩) rfl .non fun v' w' s' I' rv' rd' => ⟨v', H, I', rv', Wp.here S h _ rd'⟩
        · exact h.elim
      · exact h.elim
    · exact h.elim
  · obtain ⟨w, w2, rfl, rw', rw2'⟩ := r2.two
    try dsimp only at h
    split at h
    · rename_i ks vs e1
      split at h
      · rename_i k ek
        split at h
        · rename_i hok
          obtain ⟨a, u0, kv, vv, rfl, q, c, q1, q2⟩ := rd_dct S r e1
          cases rx
          obtain ⟨u, u2, rfl, ru, ru2⟩ := vals2 rs
          have e3 := kOf_kD ek
          rw [e3] at rw'
          exact dd_get hw hu I q ⟨c, q1, q2, rw', hok⟩ ru (.inr rfl) ru2 rw2' fun v' w' s' I' rv' rd' => ⟨v', H, I', rv', Wp.here S h _ rd'⟩
        · exact h.elim
      · exact h.elim
    · exact h.elim
  · exact h.elim⟩
theorem mi_join : MtI X .join "join" "str.join" := ⟨PySem.F.plainAttrs_str, PySem.F.slot_str_join, PySem.F.type_str_join, by
  intro pins s σ H x xs v us Q I rx rs ⟨Xk, mu, g, d, ds, S, r, r2, h⟩
  simp only [mtM] at h
  unfold joinM at h
  split at h
  · obtain ⟨w, rfl, rw'⟩ := r2.one
    try dsimp only at h
    split at h
    · have e := r.str_inv
      subst e
      split at h
      · rename_i e1
        obtain ⟨p, vs, rfl, q, rvs⟩ := rd_lst S rw' e1
        split at h
        · rename_i e2
          split at h
          · rename_i hz
            rw [rvs.strs e2] at q
            exact mt_join pins s σ H _ _ v us Q I rx rs ⟨_, p, _, rfl, rfl, .inl q, hz, Wp.here S h _ (.str _)⟩
          · exact h.elim
        · exact h.elim
      · exact h.elim
    · exact h.elim
  · exact h.elim⟩
end
/-! ### a written dict of the module, looked up by .get -/
inductive KTs (w : World) : List DictEntry → List (Str × V) → Prop
  | nil : KTs w [] []
  | cons {e : DictEntry} {es : List DictEntry} {x : Str} {v : V} {l : List (Str × V)} : (∃ t, e.key = .str x t) → e.hash = hashStr w x → RelV v e.val → KTs w es l → KTs w (e :: es) ((x, v) :: l)
structure KTab (K : PySem.W.Frag) (w : World) (a : Addr) (l : List (Str × V)) : Prop where
  ex : ∃ (es : Array DictEntry) (n : Nat), List.lookup a K = some { cls := .type "dict", data := .dict es n } ∧ KTs w es.toList l
  nd : (l.map (·.1)).Nodup
  ns : (a == sysModules) = false
theorem KTs.pairs {P : Program} {w : World} : ∀ {es : List DictEntry} {l : List (Str × V)}, KTs w es l → ∃ kvs : List (Key × Value), Pairs (mixKind P w) es kvs ∧ kvs.map (·.1) = l.map (fun p => Sum.inr p.1) ∧ (∀ e ∈ es, ∃ k, (mixKind P w).is k e.key = true ∧ e.hash = (mixKind P w).hash k) ∧ ∀ z : Str, RelO (l.lookup z) (valueAt kvs (.inr z))
  | _, _, .nil => ⟨[], .nil, rfl, (fun _ h => by cases h), fun _ => trivial⟩
  | _, _, .cons (e := e) (x := x) ⟨t, hk⟩ hh hv r => by
    obtain ⟨kvs, h1, h2, h3, h4⟩ := r.pairs (P := P)
    have hi : (mixKind P w).is (.inr x) e.key = true := kV_is (k := .inr x) (by rw [hk]; exact ⟨t, rfl⟩)
    refine ⟨(.inr x, e.val) :: kvs, .cons hi rfl h1, by simp [h2], fun e' he => ?_, fun z => ?_⟩
    · rcases List.mem_cons.mp he with rfl | he
      · exact ⟨.inr x, hi, hh⟩
      · exact h3 e' he
    · unfold valueAt
      rw [List.find?_cons, List.lookup_cons]
      by_cases hz : x = z
      · subst hz
        simp
        exact hv
      · have e1 : (z == x) = false := by simpa using fun q => hz q.symm
        have e2 : decide ((Sum.inr x : Key) = Sum.inr z) = false := by simpa using hz
        rw [e1]
        simp only [e2]
        exact h4 z
theorem KTab.dict {P : Program} {w : World} {K : PySem.W.Frag} {a : Addr} {l : List (Str × V)} (t : KTab K w a l) {h : Heap} (X : K.In h) : ∃ kvs : List (Key × Value), Heap.DictOf (mixKind P w) h a kvs ∧ ∀ z : Str, RelO (l.lookup z) (valueAt kvs (.inr z)) := by
  obtain ⟨es, n, h1, h2⟩ := t.ex
  obtain ⟨kvs, q1, q2, q3, q4⟩ := h2.pairs (P := P)
  refine ⟨kvs, ⟨_, es, n, X a _ h1, ⟨rfl, rfl, rfl⟩, rfl, fun e he => q3 e (by simpa using he), q1, ?_⟩, q4⟩
  have : (kvs.map fun x => x.1) = (l.map (·.1)).map Sum.inr := by rw [q2, List.map_map]; rfl
  rw [this]
  unfold List.Nodup
  rw [List.pairwise_map]
  exact List.Pairwise.imp (fun h e => h (by injection e)) t.nd
def rKt (K : PySem.W.Frag) (w : World) : V → List V → Hp → VK → Prop := fun x xs H Q => ∃ a l z, x = .ref a ∧ xs = [.str z] ∧ KTab K w a l ∧ Q ((l.lookup z).getD .non) H
theorem mt_kt {X : Cx} : MtR X "dict.get" (rKt X.K X.w) := by
  intro pins s σ H x xs v us Q I rx rs ⟨a, l, z, e1, e2, t, q⟩
  subst e1 e2
  cases rx
  obtain ⟨u, rfl, ru⟩ := vals1 rs
  obtain ⟨kvs, dd, hv⟩ := t.dict (P := X.prog) I.kIn
  exact call_meetsIn PySem.F.slot_dict_get dd.typeIs PySem.F.entry_dict_get (PySem.F.args_dict_get_2 (.ref a) u) (meets_dict_get (mixKind X.prog X.w) a (kV_is (k := .inr z) ru) t.ns)
    ⟨valueAt kvs, dd.mapOf, ⟨_, H, I.tok _, (hv z).getD (show RelV .non .none from rfl), q⟩⟩

/-- what is known of written dicts -/
def KtOk (X : Cx) (kt : Str → Option (List (Str × D))) : Prop := ∀ n l, kt n = some l → ∃ lv, KTab X.K X.w (He.ga X.K n) lv ∧ ∀ z, (∃ d v, l.lookup z = some d ∧ lv.lookup z = some v ∧ ∀ own mu H, RV X.K own mu H v d) ∨ (l.lookup z = none ∧ lv.lookup z = none)
def tKt (K : PySem.W.Frag) (w : World) (to : TE) (t : TA) : TE := fun σ H Q => to σ H fun x H1 => (∃ a l, x = .ref a ∧ KTab K w a l) ∧ t σ H1 fun xs H2 => rKt K w x xs H2 Q
section
variable {X : Cx} {W : WX} {e o : Expr} {es : List Expr} {Fo : FE} {Fs : Env' → M (List D)} {apos cpos : Pos} {to : TE} {t : TA} {kt : Str → Option (List (Str × D))}
theorem pe_kt (ho : PE X o to) (ha : PA X (e :: es) t)
    (hbase : attributeBase o "get" X.env (eval o X.env) = eval o X.env)
    (hfew : ((backTo cpos (starEach (e :: es) X.env)).all (fun x => !x.1) && (backToKw cpos (keywordEach [] X.env)).all (fun x => x.1.isSome)
      && decide ((e :: es).length + ([] : List Keyword).length + (if ([] : List Keyword).isEmpty then 0 else 1) < 30)) = true)
    (hline : (apos.endLine == cpos.line) = true) (hs : starEach (e :: es) X.env = (false, eval e X.env) :: starEach es X.env) (hplain : (backTo cpos (starEach es X.env)).any (·.1) = false) :
    PE X (.Call (.Attribute o "get" apos) (e :: es) [] cpos) (tKt X.K X.w to t) := by
  refine ⟨fun pins s σ H Q I h => ?_⟩
  refine wpAny_Call_method_late hbase hfew hline rfl (thn (ho.run pins s σ H _ I h) fun v s1 ⟨x, H1, I1, r1, ⟨a, l, ea, kt⟩, q1⟩ => ?_)
  subst ea
  obtain ⟨kvs, dd, _⟩ := kt.dict (P := X.prog) I1.kIn
  have rv : v = .ref a := by cases r1; rfl
  subst rv
  refine ⟨"dict", "dict.get", PySem.F.plainAttrs_dict, PySem.F.slot_dict_get, PySem.F.type_dict_get, dd.typeIs, fun b hb => ?_, ?_⟩
  · cases hb
    obtain ⟨es', n, h1, _⟩ := kt.ex
    exact ⟨_, I1.kIn _ _ h1, rfl⟩
  have hA := ha.run cpos pins s1 σ H1 _ I1 q1
  rw [hs] at hA ⊢
  refine Calls.callWith_builtin (by show (false || (backTo cpos (starEach es X.env)).any (·.1)) = false; rw [hplain] <;> rfl) (Calls.evalArgs_plain ?_)
  exact thn hA fun us s2 ⟨vs, H2, I2, r2, q2⟩ => mt_kt pins s2 σ H2 (.ref a) vs _ us Q I2 rfl r2 q2
theorem s_kget (hk : KtOk X kt) (ho : PE X o (tE X.K W Fo)) (ha : PA X (e :: es) (tA X.K W Fs))
    (hbase : attributeBase o "get" X.env (eval o X.env) = eval o X.env)
    (hfew : ((backTo cpos (starEach (e :: es) X.env)).all (fun x => !x.1) && (backToKw cpos (keywordEach [] X.env)).all (fun x => x.1.isSome)
      && decide ((e :: es).length + ([] : List Keyword).length + (if ([] : List Keyword).isEmpty then 0 else 1) < 30)) = true)
    (hline : (apos.endLine == cpos.line) = true) (hs : starEach (e :: es) X.env = (false, eval e X.env) :: starEach es X.env) (hplain : (backTo cpos (starEach es X.env)).any (·.1) = false) :
    PE X (.Call (.Attribute o "get" apos) (e :: es) [] cpos) (tE X.K W fun ρ => do
      let x ← Fo ρ
      match x with
      | .fn m => (match kt m with
        | some l => do
          let ds ← Fs ρ
          ktM l ds
        | none => M.bad)
      | _ => M.bad) :=
  pe_mono (pe_kt ho ha hbase hfew hline hs hplain) fun σ H Q ⟨mu, g, ρ, S, R, h⟩ => ⟨mu, g, ρ, S, R, (Wp.bd h).mono fun mu1 g1 H1 d1 e1 S1 h1 v1 r1 => by
    cases d1 with
    | fn m =>
      cases r1
      simp only at h1
      cases e0 : kt m with
      | none => rw [e0] at h1; exact h1.elim
      | some l =>
        rw [e0] at h1
        obtain ⟨lv, T, hz⟩ := hk m l e0
        refine ⟨⟨_, lv, rfl, T⟩, mu1, g1, ρ, S1, R.ext e1, (Wp.bd h1).mono fun mu2 g2 H2 ds e2 S2 h2 vs rs => ?_⟩
        unfold ktM at h2
        split at h2
        · rename_i z
          obtain ⟨w, rfl, rw'⟩ := rs.one
          have := rw'.str_inv
          subst this
          refine ⟨_, lv, z, rfl, rfl, T, ?_⟩
          have q := Wp.here S2 h2
          rcases hz z with ⟨d, v, a1, a2, a3⟩ | ⟨a1, a2⟩
          · rw [a1] at q; rw [a2]; exact q _ (a3 _ _ _)
          · rw [a1] at q; rw [a2]; exact q _ .non
        · exact h2.elim
    | _ => exact h1.elim⟩
end

section
variable {X : Cx}
theorem RVs.ofStrs {K : PySem.W.Frag} {own : Addr → Prop} {mu : List Addr} {H : Hp} : ∀ ys : List Str, RVs K own mu H (ys.map V.str) (ys.map D.str)
  | [] => .nil
  | y :: ys => .cons (.str y) (RVs.ofStrs ys)
theorem mi_split {fz : Bool} : MtI X (.split fz) "split" "str.split" := ⟨PySem.F.plainAttrs_str, PySem.F.slot_str_split, PySem.F.type_str_split, by
  intro pins s σ H x xs v us Q I rx rs ⟨Xk, mu, g, d, ds, S, r, r2, h⟩
  simp only [mtM] at h
  unfold splitM at h
  split at h
  · obtain ⟨w, rfl, rw'⟩ := r2.one
    try dsimp only at h
    split at h
    · have e := r.str_inv
      subst e
      have e2 := rw'.str_inv
      subst e2
      split at h
      · rename_i hz
        exact mt_split pins s σ H _ _ v us Q I rx rs ⟨_, _, rfl, rfl, hz.1, hz.2, Kt.mkLst S (RVs.ofStrs _) h⟩
      · exact h.elim
    · exact h.elim
  · exact h.elim⟩
theorem mi_upper : MtI X .upper "upper" "str.upper" := ⟨PySem.F.plainAttrs_str, PySem.F.slot_str_upper, PySem.F.type_str_upper, by
  intro pins s σ H x xs v us Q I rx rs ⟨Xk, mu, g, d, ds, S, r, r2, h⟩
  simp only [mtM] at h
  unfold upperM at h
  split at h
  · have := r2.nil_inv
    subst this
    try dsimp only at h
    split at h
    · have e := r.str_inv
      subst e
      split at h
      · rename_i hz
        exact mt_upper pins s σ H _ _ v us Q I rx rs ⟨_, rfl, rfl, hz, Wp.here S h _ (.str _)⟩
      · exact h.elim
    · exact h.elim
  · exact h.elim⟩
theorem mi_extend : MtI X .extend "extend" "list.extend" := ⟨PySem.F.plainAttrs_list, PySem.F.slot_list_extend, PySem.F.type_list_extend, by
  intro pins s σ H x xs v us Q I rx rs ⟨Xk, mu, g, d, ds, S, r, r2, h⟩
  simp only [mtM] at h
  unfold extendM at h
  split at h
  · rename_i m
    obtain ⟨w, rfl, rw'⟩ := r2.one
    obtain ⟨b, rfl, hb⟩ := rw'.ref_inv
    try dsimp only at h
    split at h
    · rename_i n
      obtain ⟨a, rfl, hm⟩ := r.ref_inv
      split at h
      · rename_i ys hg
        obtain ⟨vs, hH, rvs⟩ := S.at_ n _ a hg hm
        split at h
        · rename_i zs hg2
          obtain ⟨ws, hH2, rws⟩ := S.at_ m _ b hg2 hb
          split at h
          · rename_i hz
            have rn := rvs.append rws
            exact mt_extend pins s σ H _ _ v us Q I rx rs ⟨a, b, vs, ws, rfl, rfl, hH, hH2, by rw [rvs.length, rws.length]; exact hz, h _ _ (Ext.set hg rfl hm) (S.setL hg rfl hm rn) _ .non⟩
          · exact h.elim
        · exact h.elim
      · exact h.elim
    · exact h.elim
  · exact h.elim⟩
def eqb (b : Bool) : Value → Bool
  | .bool c => c == b
  | _ => false
theorem rv_bools {K : PySem.W.Frag} {own : Addr → Prop} {mu : List Addr} {H : Hp} : ∀ {vs : List V} {ds : List D} {bs : List Bool} {us : List Value}, RVs K own mu H vs ds → boolsOf ds = some bs → Vals vs us → us = bs.map Value.bool
  | _, [], _, us, r, e, v => by cases r; cases e; cases v; rfl
  | _, d :: ds, _, us, r, e, v => by
    cases r with
    | cons r1 r2 =>
      cases v with
      | cons v1 v2 =>
        unfold boolsOf at e
        split at e
        · rename_i q
          cases q
        · rename_i b r eq
          cases eq
          obtain ⟨bs', hb, rfl⟩ := Option.map_eq_some_iff.mp e
          cases r1
          cases v1
          rw [List.map_cons, rv_bools r2 hb v2]
        · cases e
theorem cnt_bools (b : Bool) : ∀ bs : List Bool, (bs.map Value.bool).countP (eqb b) = (bs.filter (· == b)).length
  | [] => rfl
  | c :: bs => by
    rw [List.map_cons, List.countP_cons, cnt_bools b bs, List.filter_cons]
    show _ + (if (c == b) = true then 1 else 0) = _
    cases c == b <;> simp
theorem mi_count : MtI X .count "count" "list.count" := ⟨PySem.F.plainAttrs_list, PySem.F.slot_list_count, PySem.F.type_list_count, by
  intro pins s σ H x xs v us Q I rx rxs ⟨Xk, mu, g, d, ds, S, r, r2, h⟩
  simp only [mtM] at h
  unfold countM at h
  split at h
  · rename_i b
    split at h
    · rename_i ys e1
      split at h
      · rename_i bs hb
        obtain ⟨p, vs, rfl, hs, rvs⟩ := rd_lst S r e1
        cases rx
        cases r2 with
        | cons q1 q2 =>
          cases q2
          cases q1
          obtain ⟨u, rfl, ru⟩ := vals1 rxs
          cases ru
          obtain ⟨its, rv, ⟨⟨cls, dd, data, sl⟩, n, ho, hc, hdn, hd⟩, hlen⟩ := I.list hs
          simp only at hc hd
          subst hc hd
          have hi := rv_bools rvs hb rv
          subst hi
          refine call_meets PySem.F.slot_list_count ⟨_, ho, rfl⟩ PySem.F.entry_list_count (PySem.F.args_list_count_2 _ _)
            (SeqAt.list_countAt p (bs.map Value.bool).toArray n dd sl (.bool b) (eqb b)) ⟨ho, fun y hy => ?_, ?_⟩
          · have hy : y ∈ bs.map Value.bool := by simpa using hy
            obtain ⟨c, _, rfl⟩ := List.mem_map.mp hy
            exact PySem.SeqAt.EqAt.bool_bool c b
          · refine ⟨.int ((bs.filter (· == b)).length : Nat), H, I.tok _, ⟨s.toks, ?_⟩, Wp.here S h _ (.int _)⟩
            rw [show (bs.map Value.bool).toArray.toList = bs.map Value.bool by simp, cnt_bools b bs]
      · exact h.elim
    · exact h.elim
  · exact h.elim⟩
theorem mi_clear : MtI X .clear "clear" "list.clear" := ⟨PySem.F.plainAttrs_list, PySem.F.slot_list_clear, PySem.F.type_list_clear, by
  intro pins s σ H x xs v us Q I rx rs ⟨Xk, mu, g, d, ds, S, r, r2, h⟩
  simp only [mtM] at h
  unfold clearM at h
  split at h
  · have := r2.nil_inv
    subst this
    try dsimp only at h
    split at h
    · rename_i n
      obtain ⟨a, rfl, hm⟩ := r.ref_inv
      split at h
      · rename_i ys hg
        obtain ⟨vs, hH, rvs⟩ := S.at_ n _ a hg hm
        exact mt_clear pins s σ H _ _ v us Q I rx rs ⟨a, vs, rfl, rfl, hH, h _ _ (Ext.set hg rfl hm) (S.setL hg rfl hm .nil) _ .non⟩
      · exact h.elim
    · exact h.elim
  · exact h.elim⟩
end
end DL

set_option Elab.async false
set_option linter.all false
set_option maxRecDepth 100000
set_option maxHeartbeats 4000000
/-! the deep layer: displays of dicts -/
namespace DL
open PySem PySem.Spec PyProof.Rows L2
variable [Wd]

section
variable {K : PySem.W.Frag} {own : Addr → Prop} {mu : List Addr} {H : Hp}
/-- pairs -/
def RVP (K : PySem.W.Frag) (own : Addr → Prop) (mu : List Addr) (H : Hp) (vs : List (V × V)) (ps : List (D × D)) : Prop := RVs K own mu H (vs.map (·.1)) (ps.map (·.1)) ∧ RVs K own mu H (vs.map (·.2)) (ps.map (·.2))
theorem dmerge_ok : ∀ {ps : List (D × D)} {vs : List (V × V)} {kvs0 : List (Key × V)} {ks0 ws0 : List D} {r : List D × List D}, RVP K own mu H vs ps → dmerge ks0 ws0 ps = some r →
    RVs K own mu H (kvs0.map fun p => kV p.1) ks0 → RVs K own mu H (kvs0.map (·.2)) ws0 → ∃ kvs : List (Key × V), vs = kvs.map (fun kv => (kV kv.1, kv.2)) ∧
    RVs K own mu H ((mergeK kvs0 kvs).map fun p => kV p.1) r.1 ∧ RVs K own mu H ((mergeK kvs0 kvs).map (·.2)) r.2
  | [], [], kvs0, ks0, ws0, r, _, h, h1, h2 => by
    cases h
    exact ⟨[], rfl, h1, h2⟩
  | [], v :: vs, _, _, _, _, h, _, _, _ => nomatch h.1
  | p :: ps, [], _, _, _, _, h, _, _, _ => nomatch h.1
  | (dk, dv) :: ps, (vk, vv) :: vs, kvs0, ks0, ws0, r, ⟨hp1, hp2⟩, h, h1, h2 => by
    cases hp1 with
    | cons a1 t1 =>
      cases hp2 with
      | cons a2 t2 =>
        unfold dmerge at h
        split at h
        · rename_i k ek
          have e := kOf_dOf ek
          try simp only at e
          subst e
          have e2 := a1.key
          try simp only at e2
          subst e2
          obtain ⟨q1, q2⟩ := dput_ok (k := k) a2 h1 h2
          obtain ⟨kvs, e3, q3, q4⟩ := dmerge_ok ⟨t1, t2⟩ h q1 q2
          subst e3
          exact ⟨(k, vv) :: kvs, rfl, q3, q4⟩
        · cases h
end
def tQ (K : PySem.W.Frag) (W : WX) (F : Env' → M (List (D × D))) : L2.St → Hp → (List (V × V) → Hp → Prop) → Prop := fun σ H Q => ∃ mu g ρ, Sim K mu g H ∧ RE K (Own mu g) mu H σ ρ ∧
  Wp K (fun c d H => W c d σ H) mu g H (F ρ g) fun mu' g' H' ps => ∀ vs, RVP K (Own mu' g') mu' H' vs ps → Q vs H'
structure PQ (X : Cx) (pos : Pos) (keys : List (Option Expr)) (values : List Expr) (t : L2.St → Hp → (List (V × V) → Hp → Prop) → Prop) : Prop where
  run : ∀ (pins : List (Addr × Obj)) (s : Shared) (σ : L2.St) (H : Hp) (Q : List (V × V) → Hp → Prop), Inv X pins σ H s → t σ H Q →
    wpAny (model X.prog X.w) X.A (evalPairs (pairTrees keys values X.env pos)) (fun vs s' => ∃ ps H', Inv X pins σ H' s' ∧ VV ps vs ∧ Q ps H') X.xe s
section
variable {X : Cx} {W : WX} {pos : Pos} {a k v : Expr} {ks : List (Option Expr)} {vs : List Expr} {Fk Fv : FE} {Fr : Env' → M (List (D × D))}
theorem sq_nil : PQ X pos [] [] (tQ X.K W fun _ => pure []) := ⟨fun pins s σ H Q I ⟨mu, g, ρ, S, R, h⟩ => pairTrees_nil_walk ⟨[], H, I, .nil, Wp.here S h _ ⟨.nil, .nil⟩⟩⟩
theorem sq_cons (hk : PE X k (tE X.K W Fk)) (hv : PE X v (tE X.K W Fv)) (hr : PQ X pos ks vs (tQ X.K W Fr)) : PQ X pos (some k :: ks) (v :: vs) (tQ X.K W fun ρ => do
    let x ← Fk ρ
    let y ← Fv ρ
    let ps ← Fr ρ
    pure ((x, y) :: ps)) := ⟨fun pins s σ H Q I ⟨mu, g, ρ, S, R, h⟩ =>
  pairTrees_cons_walk (thn (hk.run pins s σ H (fun x H1 => tE X.K W Fv σ H1 fun y H2 => tQ X.K W Fr σ H2 fun ps H3 => Q ((x, y) :: ps) H3) I ⟨mu, g, ρ, S, R, (Wp.bd h).mono fun mu1 g1 H1 d1 e1 S1 h1 v1 r1 => ⟨mu1, g1, ρ, S1, R.ext e1, (Wp.bd h1).mono fun mu2 g2 H2 d2 e2 S2 h2 v2 r2 =>
      ⟨mu2, g2, ρ, S2, (R.ext e1).ext e2, (Wp.bd h2).mono fun mu3 g3 H3 ps e3 S3 h3 vs r3 => Wp.here S3 h3 _ ⟨.cons ((r1.ext e2).ext e3) r3.1, .cons (r2.ext e3) r3.2⟩⟩⟩⟩)
    fun u s1 ⟨x, H1, I1, rx, q1⟩ => thn (hv.run pins s1 σ H1 _ I1 q1) fun w2 s2 ⟨y, H2, I2, ry, q2⟩ =>
    thn (hr.run pins s2 σ H2 _ I2 q2) fun ws s3 ⟨ps, H3, I3, rel, q3⟩ => ⟨(x, y) :: ps, H3, I3, .cons ⟨rx, ry⟩ rel, q3⟩)⟩
theorem pe_dispQ {keys : List (Option Expr)} {values : List Expr} {t : L2.St → Hp → (List (V × V) → Hp → Prop) → Prop} (h : PQ X pos keys values t) (hall : keys.all (·.isSome) = true) (hl : keys.length = values.length) (h0 : keys ≠ [])
    (h15 : keys.length ≤ 15) : PE X (.Dict keys values pos) (fun σ H Q => ∀ p, H p = none → t σ (upd H p (.dK [])) fun ps H2 => H2 p = some (.dK []) ∧ ∃ kvs : List (Key × V), ps = kvs.map (fun kv => (kV kv.1, kv.2)) ∧ kvs.length ≤ 15 ∧ Q (.ref p) (upd H2 p (.dK (mergeK [] kvs)))) := by
  refine ⟨fun pins s σ H Q I q => ?_⟩
  have hn := I.hok.fresh (Nat.le_refl s.heap.objs.size)
  have I1 := I.laid (a := s.heap.objs.size) (o := .dK []) (h' := s.heap.push { cls := .type "dict", data := .dict #[] }) (t' := s.toks) (fun _ _ q => Heap.get?_push_of_some _ q) (Nat.le_refl _) (dk_empty s.heap I.big)
  refine wpAny_Dict_walk (knd := mixKind X.prog X.w) hall hl h0 h15 (thn (h.run pins _ σ _ _ I1 (q _ hn)) fun ws s2 ⟨ps, H2, I2, rel, e, kvs, ep, lk, q2⟩ => ?_)
  subst ep
  obtain ⟨rs, c, rk⟩ := carries_of (P := X.prog) (w := X.w) rel
  obtain ⟨z, hd, vs0, r0, dd⟩ := dk_of I2.hok e
  cases r0
  refine ⟨rs, c, dd, fun h' dd' hs => ⟨.ref s.heap.objs.size, _, ?_, rfl, q2⟩⟩
  have hz : (mergeK [] kvs).length ≤ sizeLine := by
    have h1 := length_mergeK kvs []
    rw [List.length_nil] at h1
    rw [sizeLine_eq]; omega
  have he : ∃ q, h'.get? s.heap.objs.size = some q := let ⟨q, _, _, hq, _⟩ := dd'; ⟨q, hq⟩
  exact d_write I2 (by rw [e]; exact True.intro) hs he (dk_new hz hd (rk.merge .nil) dd')
/-- a dict let go behind its making -/
theorem pe_lockD {e : Expr} {te : TE} (he : PE X e te) : PE X e (fun σ H Q => te σ H fun v H1 => ∃ p kvs, v = .ref p ∧ H1 p = some (.dK kvs) ∧ ∀ od, Q v (upd H1 p (.frz od (.dK kvs)))) :=
  ⟨fun pins s σ H Q I h => thn (he.run pins s σ H _ I h) fun u s1 ⟨x, H1, I1, rx, p, kvs, ex, hp, q⟩ => by
    subst ex
    obtain ⟨od, I2⟩ := I1.lock hp True.intro
    exact ⟨.ref p, _, I2, rx, q od⟩⟩
/-- what a display comes to -/
theorem disp_end {K : PySem.W.Frag} {Xk : XK} {mu1 mu2 : List Addr} {g1 g2 : G} {H2 : Hp} {n : Nat} {p : Addr} {ps : List (D × D)} {vs : List (V × V)} {fz : Bool} {Q : VK} (S2 : Sim K mu2 g2 H2) (hm : mu2[n]? = some p) (r : RVP K (Own mu2 g2) mu2 H2 vs ps)
    (h : Wp K Xk mu2 g2 H2 (setDctM n fz ps g2) fun mu' g' H' d => ∀ v, RV K (Own mu' g') mu' H' v d → Q v H') :
    H2 p = some (.dK []) ∧ ∃ kvs : List (Key × V), vs = kvs.map (fun kv => (kV kv.1, kv.2)) ∧ (fz = false → Q (.ref p) (upd H2 p (.dK (mergeK [] kvs)))) ∧ (fz = true → ∀ od, Q (.ref p) (upd H2 p (.frz od (.dK (mergeK [] kvs))))) := by
  unfold setDctM at h
  split at h
  · rename_i hg
    obtain ⟨u0, kv0, vv0, hp, c0, r1, r2⟩ := S2.at_ n _ p hg hm
    have e0 := c0.nil r1
    subst e0
    split at h
    · rename_i rr hr
      obtain ⟨kvs, e1, q1, q2⟩ := dmerge_ok (kvs0 := []) r hr .nil .nil
      refine ⟨hp, kvs, e1, fun ef => ?_, fun ef od => ?_⟩
      · subst ef
        have E : Ext mu2 g2 H2 mu2 (g2.set n (.dct rr.1 rr.2)) (upd H2 p (.dK (mergeK [] kvs))) := Ext.set hg rfl hm
        have S3 : Sim K mu2 (g2.set n (.dct rr.1 rr.2)) (upd H2 p (.dK (mergeK [] kvs))) := S2.set hg rfl hm ⟨_, _, _, upd_same, .k (mergeK [] kvs) _, q1.ext E, q2.ext E⟩
        exact h _ _ E S3 _ (.ref hm)
      · subst ef
        have E : Ext mu2 g2 H2 mu2 (g2.set n .gone) (upd H2 p (.frz od (.dK (mergeK [] kvs)))) := Ext.set hg rfl hm
        have S3 : Sim K mu2 (g2.set n .gone) (upd H2 p (.frz od (.dK (mergeK [] kvs)))) := S2.set hg rfl hm ⟨_, upd_same⟩
        exact h _ _ E S3 _ (.dct (nown_gone S2 hm) upd_same (.k (mergeK [] kvs) _) (q1.ext E) (q2.ext E))
    · exact h.elim
  · exact h.elim
theorem RVP.length {K : PySem.W.Frag} {own : Addr → Prop} {mu : List Addr} {H : Hp} {vs : List (V × V)} {ps : List (D × D)} (r : RVP K own mu H vs ps) : vs.length = ps.length := by
  have := r.1.length
  rw [List.length_map, List.length_map] at this
  exact this
theorem s_dct {keys : List (Option Expr)} {values : List Expr} {fz : Bool} (h : PQ X pos keys values (tQ X.K W Fr)) (hall : keys.all (·.isSome) = true) (hl : keys.length = values.length) (h0 : keys ≠ []) (h15 : keys.length ≤ 15) : PE X (.Dict keys values pos) (tE X.K W fun ρ => do
    let n ← newDct
    let ps ← Fr ρ
    needM (ps.length ≤ 15)
    setDctM n fz ps) := by
  have key : ∀ (σ : L2.St) (H : Hp) (Q : VK), tE X.K W (fun ρ => do
      let n ← newDct
      let ps ← Fr ρ
      needM (ps.length ≤ 15)
      setDctM n fz ps) σ H Q → ∀ p, H p = none → tQ X.K W Fr σ (upd H p (.dK [])) fun vs H2 => H2 p = some (.dK []) ∧ ∃ kvs : List (Key × V), vs = kvs.map (fun kv => (kV kv.1, kv.2)) ∧ kvs.length ≤ 15 ∧
        (fz = false → Q (.ref p) (upd H2 p (.dK (mergeK [] kvs)))) ∧ (fz = true → ∀ od, Q (.ref p) (upd H2 p (.frz od (.dK (mergeK [] kvs))))) := by
    intro σ H Q ⟨mu, g, ρ, S, R, h⟩ p hp
    have E : Ext mu g H (mu ++ [p]) (g ++ [O.dct [] []]) (upd H p (.dK [])) := Ext.alloc S.len hp
    have S1 : Sim X.K (mu ++ [p]) (g ++ [O.dct [] []]) (upd H p (.dK [])) := S.alloc hp ⟨_, _, _, upd_same, .k [] _, .nil, .nil⟩
    have hm : (mu ++ [p])[g.length]? = some p := by rw [← S.len]; simp
    have h' : Wp X.K (fun c d H => W c d σ H) mu g H ((do
      let ps ← Fr ρ
      needM (ps.length ≤ 15)
      setDctM g.length fz ps) (g ++ [O.dct [] []])) (fun mu' g' H' d => ∀ v, RV X.K (Own mu' g') mu' H' v d → Q v H') := h
    refine ⟨mu ++ [p], g ++ [O.dct [] []], ρ, S1, R.ext E, (Wp.bd (Wp.ext E h')).mono fun mu2 g2 H2 ps e2 S2 h2 vs r => ?_⟩
    obtain ⟨hlen, k⟩ := Wp.needI h2
    obtain ⟨q1, kvs, q2, q3⟩ := disp_end (mu1 := mu) (g1 := g) S2 (pre_get e2.pre hm) r k
    refine ⟨q1, kvs, q2, ?_, q3⟩
    have := r.length
    rw [q2, List.length_map] at this
    omega
  cases fz with
  | false => 
    refine pe_mono (pe_dispQ h hall hl h0 h15) fun σ H Q hh p hp => ?_
    obtain ⟨mu, g, ρ, S, R, k⟩ := key σ H Q hh p hp
    exact ⟨mu, g, ρ, S, R, k.mono fun mu' g' H' ps e S' q vs r => let ⟨q1, kvs, q2, q3, q4, _⟩ := q vs r; ⟨q1, kvs, q2, q3, q4 rfl⟩⟩
  | true =>
    refine pe_mono (pe_lockD (pe_dispQ h hall hl h0 h15)) fun σ H Q hh p hp => ?_
    obtain ⟨mu, g, ρ, S, R, k⟩ := key σ H Q hh p hp
    refine ⟨mu, g, ρ, S, R, k.mono fun mu' g' H' ps e S' q vs r => let ⟨q1, kvs, q2, q3, _, q4⟩ := q vs r; ⟨q1, kvs, q2, q3, p, mergeK [] kvs, rfl, upd_same, fun od => ?_⟩⟩
    rw [upd_upd]
    exact q4 rfl od
/-- {} -/
theorem s_dct0 {fz : Bool} : PE X (.Dict [] [] pos) (tE X.K W fun ρ => do
    let n ← newDct
    let ps ← (pure [] : M (List (D × D)))
    needM (ps.length ≤ 15)
    setDctM n fz ps) := by
  have key : ∀ (σ : L2.St) (H : Hp) (Q : VK), tE X.K W (fun ρ => do
      let n ← newDct
      let ps ← (pure [] : M (List (D × D)))
      needM (ps.length ≤ 15)
      setDctM n fz ps) σ H Q → ∀ p, H p = none → (fz = false → Q (.ref p) (upd H p (.dK []))) ∧ (fz = true → ∀ od, Q (.ref p) (upd H p (.frz od (.dK [])))) := by
    intro σ H Q ⟨mu, g, ρ, S, R, h⟩ p hp
    have E : Ext mu g H (mu ++ [p]) (g ++ [O.dct [] []]) (upd H p (.dK [])) := Ext.alloc S.len hp
    have S1 : Sim X.K (mu ++ [p]) (g ++ [O.dct [] []]) (upd H p (.dK [])) := S.alloc hp ⟨_, _, _, upd_same, .k [] _, .nil, .nil⟩
    have hm : (mu ++ [p])[g.length]? = some p := by rw [← S.len]; simp
    have h' : Wp X.K (fun c d H => W c d σ H) mu g H (setDctM g.length fz [] (g ++ [O.dct [] []])) (fun mu' g' H' d => ∀ v, RV X.K (Own mu' g') mu' H' v d → Q v H') := h
    obtain ⟨q1, kvs, q2, q3, q4⟩ := disp_end (mu1 := mu) (g1 := g) (vs := []) S1 hm ⟨.nil, .nil⟩ (Wp.ext E h')
    have e0 : kvs = [] := by
      cases kvs with
      | nil => rfl
      | cons a b => cases q2
    subst e0
    have e1 : ∀ o, upd (upd H p (.dK [])) p o = upd H p o := fun o => upd_upd
    simp only [e1] at q3 q4
    exact ⟨q3, q4⟩
  cases fz with
  | false => exact pe_mono pe_dnewK fun σ H Q hh p hp => (key σ H Q hh p hp).1 rfl
  | true =>
    refine pe_mono (pe_lockD pe_dnewK) fun σ H Q hh p hp => ⟨p, [], rfl, upd_same, fun od => ?_⟩
    rw [upd_upd]
    exact (key σ H Q hh p hp).2 rfl od
end

/-! ### dict(pairs), dict(d) -/
theorem dputs_eq : ∀ {ps : List (D × D)} {ks vs : List D}, dputs ks vs ps = dmerge ks vs ps
  | [], _, _ => rfl
  | (k, v) :: r, ks, vs => by
    unfold dputs dmerge
    cases keyOf k with
    | none => rfl
    | some k =>
      cases k with
      | a k => exact dputs_eq
      | t l => rfl
theorem upd2 {H : Hp} {p : Addr} {x y : HO} : upd (upd H p x) p y = upd H p y := by
  funext a
  by_cases h : a = p
  · subst h; rw [upd_same, upd_same]
  · rw [upd_ne h, upd_ne h, upd_ne h]
section
variable {X : Cx}
theorem pairs_ok {K : PySem.W.Frag} {mu : List Addr} {g : G} {H : Hp} : ∀ {ps : List D} {vs : List V} {qs : List (D × D)}, RVs K (Own mu g) mu H vs ps → pairsOf ps = some qs → ∃ (as : List Addr) (prs : List (V × V)), vs = as.map V.ref ∧ Paired (fun a p => SqT K H a [p.1, p.2]) as prs ∧ RVP K (Own mu g) mu H prs qs
  | [], vs, qs, r, h => by
    cases r
    cases h
    exact ⟨[], [], rfl, .nil, .nil, .nil⟩
  | p :: ps, vs, qs, r, h => by
    unfold pairsOf at h
    split at h
    · rename_i e; cases e
    · rename_i k v r' e
      cases e
      obtain ⟨qs', h1, rfl⟩ := Option.map_eq_some_iff.mp h
      cases r with
      | cons r0 rt =>
        obtain ⟨a, ws, rfl, q, rw'⟩ := rd_tup (g := g) r0 rfl
        obtain ⟨v1, v2, rfl, w1, w2⟩ := rw'.two
        obtain ⟨as, prs, rfl, hp, hr⟩ := pairs_ok rt h1
        exact ⟨a :: as, (v1, v2) :: prs, rfl, .cons q hp, .cons w1 hr.1, .cons w2 hr.2⟩
    · cases h
theorem paired_kvs {K : PySem.W.Frag} {H : Hp} : ∀ {as : List Addr} {kvs : List (Key × V)}, Paired (fun a p => SqT K H a [p.1, p.2]) as (kvs.map fun kv => (kV kv.1, kv.2)) → Paired (fun a kv => SqT K H a [kV kv.1, kv.2]) as kvs
  | _, [], h => by cases h; exact .nil
  | _, kv :: kvs, h => by
    cases h with
    | cons a b => exact .cons a (paired_kvs b)
theorem call_dictC : CallR X (.type "dict") (fun xs H Q => ∃ a kvs, xs = [.ref a] ∧ Rd H a (.dK kvs) ∧ ∀ p, H p = none → Q (.ref p) (upd H p (.dK kvs))) := by
  intro pins s σ H xs us Q I r ⟨a, kvs, e, hk, q⟩
  subst e
  obtain ⟨u, eu, rx⟩ := vals1 r
  subst eu
  obtain rfl : u = Value.ref a := rx
  obtain ⟨z, lo, vs, rk, hd⟩ := dk_rd I.hok hk
  have nd : (vs.map (·.1)).Nodup := by
    obtain ⟨_, _, _, _, _, _, _, _, nd⟩ := hd
    exact nd
  obtain ⟨_, lo2, _⟩ := dk_empty (P := X.prog) (w := X.w) (H := H) s.heap I.big
  refine call_dict_copy hd lo (by rw [← Paired.length rk]; exact z) fun h' d1 hkeep => ?_
  rw [merged_nil_of_nodup vs nd] at d1
  exact ⟨.ref s.heap.objs.size, upd H s.heap.objs.size (.dK kvs), I.laid hkeep (Nat.le_refl _) (dk_new z lo2 rk d1), rfl, q _ (I.hok.fresh (Nat.le_refl _))⟩
theorem dict_fin {pins : List (Addr × Obj)} {σ : L2.St} {H : Hp} {s : Shared} {Q : VK} {fz : Bool} {kvs : List (Key × V)} {m : Sem Value} (hm : (fz = false → ∀ p, H p = none → Q (.ref p) (upd H p (.dK kvs))) ∧ (fz = true → ∀ p od, H p = none → Q (.ref p) (upd H p (.frz od (.dK kvs)))))
    (mk : ∀ Q' : VK, (∀ p, H p = none → Q' (.ref p) (upd H p (.dK kvs))) → wpAny (model X.prog X.w) X.A m (EP X pins σ Q') X.xe s) : wpAny (model X.prog X.w) X.A m (EP X pins σ Q) X.xe s := by
  cases fz with
  | false => exact mk Q (hm.1 rfl)
  | true =>
    refine thn (mk (fun v H1 => ∃ p, v = .ref p ∧ H1 = upd H p (.dK kvs) ∧ H p = none) fun p hp => ⟨p, rfl, rfl, hp⟩) fun u s1 ⟨x, H1, I1, rx, p, ex, eH, hp⟩ => ?_
    subst ex eH
    obtain ⟨od, I2⟩ := I1.lock upd_same True.intro
    rw [upd2] at I2
    exact ⟨.ref p, _, I2, rx, hm.2 rfl p od hp⟩
/-- the pairs of a list, keys that are tuples: the keys, where they stand, the values -/
theorem tpairs_ok {pins : List (Addr × Obj)} {σ : L2.St} {H : Hp} {s : Shared} {mu : List Addr} {g : G} (I : Inv X pins σ H s) : ∀ {as : List Addr} {prs : List (V × V)} {qs : List (D × D)} {ks : List TK}, Paired (fun a p => SqT X.K H a [p.1, p.2]) as prs → RVP X.K (Own mu g) mu H prs qs → tkeys qs = some ks →
    ∃ (xs : List (TK × Addr × Value)) (vv : List V), xs.map (·.1) = ks ∧ xs.length = as.length ∧ (∀ x ∈ xs, (tdep x.1 ≤ 8 ∧ ∃ l, x.1 = .t l) ∧ KIs s.heap x.1 (.ref x.2.1)) ∧ Vals vv (xs.map (·.2.2)) ∧ RVs X.K (Own mu g) mu H (xs.map fun x => V.ref x.2.1) (xs.map fun x => kD x.1) ∧ RVs X.K (Own mu g) mu H vv (qs.map (·.2)) ∧
      qs.map (·.1) = (xs.map fun x => kD x.1) ∧ ∀ (j : Nat) (x : TK × Addr × Value), xs[j]? = some x → ∃ b, as[j]? = some b ∧ IsTup s.heap b #[.ref x.2.1, x.2.2]
  | [], prs, qs, ks, hp, hr, hk => by
    cases hp
    obtain ⟨h1, h2⟩ := hr
    cases qs with
    | nil =>
      cases hk
      exact ⟨[], [], rfl, rfl, (fun x hx => by cases hx), .nil, .nil, .nil, rfl, fun j x h => by simp at h⟩
    | cons q qs => simp only [List.map_cons, List.map_nil] at h1; cases h1
  | a :: as, _, qs, ks, hp, hr, hk => by
    cases hp with
    | @cons _ p _ prs h t =>
      obtain ⟨r1, r2⟩ := hr
      cases qs with
      | nil => simp only [List.map_cons, List.map_nil] at r1; cases r1
      | cons q qs =>
        obtain ⟨qk, qv⟩ := q
        simp only [List.map_cons] at r1 r2
        cases r1 with
        | cons r1 r1s =>
          cases r2 with
          | cons r2 r2s =>
            unfold tkeys at hk
            split at hk
            · rename_i l ks' e1 e2
              split at hk
              · rename_i hd
                cases hk
                obtain ⟨xs, vv, b1, b2, b3, b4, b5, b6, b7, b8⟩ := tpairs_ok I t ⟨r1s, r2s⟩ e2
                have ek := kOf_kD e1
                rw [ek] at r1
                obtain ⟨its, rv, ht, _⟩ := I.tuple h
                obtain ⟨u, y, ei, ru, ry⟩ := vals2 rv
                subst ei
                have hp1 : ∃ b, p.1 = .ref b := by
                  have r1' : RV X.K (Own mu g) mu H p.1 (.tup (kDs l)) := r1
                  obtain ⟨b, vs, e, _⟩ := r1'.tup_inv
                  exact ⟨b, e⟩
                obtain ⟨b, eb⟩ := hp1
                rw [eb] at ru r1
                cases ru
                refine ⟨(.t l, b, y) :: xs, p.2 :: vv, by simp [b1], by simp [b2], fun x hx => ?_, .cons ry b4, .cons r1 b5, .cons r2 b6, ?_, fun j x hj => ?_⟩
                · rcases List.mem_cons.mp hx with e | hx
                  · subst e
                    exact ⟨⟨hd, l, rfl⟩, RV.kis I r1 rfl⟩
                  · exact b3 x hx
                · simp only [List.map_cons, b7, ek]
                · cases j with
                  | zero =>
                    cases Option.some.inj (show some _ = some x from hj)
                    exact ⟨a, rfl, ht⟩
                  | succ j => exact b8 j x (by simpa using hj)
              · cases hk
            · cases hk
theorem dict_finF {pins : List (Addr × Obj)} {σ : L2.St} {H : Hp} {s : Shared} {Q : VK} {fz : Bool} {f : Addr → HO} {m : Sem Value} (hmu : ∀ p, Mut (some (f p))) (hm : (fz = false → ∀ p, H p = none → Q (.ref p) (upd H p (f p))) ∧ (fz = true → ∀ p od, H p = none → Q (.ref p) (upd H p (.frz od (f p)))))
    (mk : ∀ Q' : VK, (∀ p, H p = none → Q' (.ref p) (upd H p (f p))) → wpAny (model X.prog X.w) X.A m (EP X pins σ Q') X.xe s) : wpAny (model X.prog X.w) X.A m (EP X pins σ Q) X.xe s := by
  cases fz with
  | false => exact mk Q (hm.1 rfl)
  | true =>
    refine thn (mk (fun v H1 => ∃ p, v = .ref p ∧ H1 = upd H p (f p) ∧ H p = none) fun p hp => ⟨p, rfl, rfl, hp⟩) fun u s1 ⟨x, H1, I1, rx, p, ex, eH, hp⟩ => ?_
    subst ex eH
    obtain ⟨od, I2⟩ := I1.lock upd_same (hmu p)
    rw [upd2] at I2
    exact ⟨.ref p, _, I2, rx, hm.2 rfl p od hp⟩
theorem mkDctF {K : PySem.W.Frag} {Xk : XK} {mu : List Addr} {g : G} {H : Hp} {Q : VK} (S : Sim K mu g H) {fz : Bool} {ks ds : List D} {f : Addr → HO} {kv vv : List V} (c : ∀ p, DctC p (f p) kv vv ks) (r1 : RVs K (Own mu g) mu H kv ks) (r2 : RVs K (Own mu g) mu H vv ds) (k : Wp K Xk mu g H (mkD fz ks ds g) fun mu' g' H' d => ∀ v, RV K (Own mu' g') mu' H' v d → Q v H') :
    (fz = false → ∀ p, H p = none → Q (.ref p) (upd H p (f p))) ∧ (fz = true → ∀ p od, H p = none → Q (.ref p) (upd H p (.frz od (f p)))) := by
  cases fz with
  | true => exact ⟨(fun h => by cases h), fun _ p od hp => k mu _ (.new hp) (S.new hp) _ (.dct (S.nown_fresh hp) upd_same (c p) (r1.ext (.new hp)) (r2.ext (.new hp)))⟩
  | false => exact ⟨(fun _ p hp => k (mu ++ [p]) _ (.alloc S.len hp) (S.alloc hp ⟨_, _, _, upd_same, c p, r1.ext (.alloc S.len hp), r2.ext (.alloc S.len hp)⟩) _ (.ref (by rw [← S.len]; simp))), fun h => by cases h⟩
/-- dict(xs), pairs whose keys are tuples -/
theorem call_dictT (hc : X.calm = true) (hw : X.w = Wd.w) (hu : X.A.units + 64 < cLine) {pins : List (Addr × Obj)} {σ : L2.St} {H : Hp} {s : Shared} {Q : VK} {a : Addr} {as : List Addr} {xs : List (TK × Addr × Value)} (I : Inv X pins σ H s)
    (hq : SqL X.K H a (as.map V.ref)) (hl : xs.length = as.length) (hx : ∀ x ∈ xs, (tdep x.1 ≤ 8 ∧ ∃ l, x.1 = .t l) ∧ KIs s.heap x.1 (.ref x.2.1)) (hn : (xs.map (·.1)).Nodup) (ht : ∀ (j : Nat) (x : TK × Addr × Value), xs[j]? = some x → ∃ b, as[j]? = some b ∧ IsTup s.heap b #[.ref x.2.1, x.2.2])
    (q : ∀ p, H p = none → Q (.ref p) (upd H p (dN p xs))) : wpAny (model X.prog X.w) X.A (call (.type "dict") [.ref a]) (EP X pins σ Q) X.xe s := by
  obtain ⟨its, rv, pl, hz⟩ := I.list hq
  have ei := refs_at rv
  subst ei
  rw [List.length_map] at hz
  obtain ⟨o, n, ho, hcl, hd, hdat⟩ := pl
  have P := PySem.PairArg.list (prog := X.prog) (w := X.w) a (as.map Value.ref).toArray (fun j => as[j]?.getD 0) (xs.map fun x => (Value.ref x.2.1, x.2.2))
  refine PySem.call_dict_pairsH (knd := nkKind X.prog X.w) (ps := xs) P (I.ok.hd hc) (by show X.A.units + 1 + 1 + 8 < cLine; omega) ⟨⟨o, n, ho, hcl, hd, hdat⟩, ?_, fun j k v hj => ?_⟩ ⟨by simp, fun i key v hi => ?_⟩ (fun h' hk x hxm => ?_) (by rw [List.length_map, hl]; exact hz) fun h' tk dh' keep => ?_
  · simp [hl]
  · rw [List.getElem?_map] at hj
    cases e : xs[j]? with
    | none => rw [e] at hj; cases hj
    | some x =>
      rw [e] at hj
      cases hj
      obtain ⟨b, e1, e2⟩ := ht j x e
      have e3 : as[j]?.getD 0 = b := by rw [e1]; rfl
      refine ⟨by simp [e1], ?_⟩
      show PySem.PairAt s.heap (as[j]?.getD 0) _ _
      rw [e3]
      obtain ⟨o', h1, h2, n', h3⟩ := e2
      exact .inl ⟨o', h1, h2, n', h3⟩
  · have hi : (xs.map fun x => (Value.ref x.2.1, x.2.2))[i]? = some (key, v) := hi
    rw [List.getElem?_map] at hi
    cases e : xs[i]? with
    | none => rw [e] at hi; cases hi
    | some x =>
      rw [e] at hi
      cases hi
      exact ⟨x.1, x.2.1, rfl, rfl⟩
  · obtain ⟨⟨h1, _⟩, h2⟩ := hx x hxm
    exact ⟨h1, h2.mono fun b ob items n hb _ => hk b ob (Nat.ne_of_lt (Heap.lt_size hb)) (by simp) hb⟩
  · rw [PySem.storedAllH_nil_of_nodup xs hn] at dh'
    obtain ⟨o', es, ep, e1, e2, e3, e4, _, e5⟩ := dh'
    have hm : (s.heap.objs.size == sysModules) = false := beq_eq_false_iff_ne.mpr (Nat.ne_of_gt I.big)
    refine ⟨.ref s.heap.objs.size, upd H s.heap.objs.size (dN s.heap.objs.size xs), I.laid (t' := tk) (fun b o e => keep b o (by simp) e) (Nat.le_refl _) ⟨⟨by rw [hl]; exact hz, hm, e5, o', es, ep, e1, e2, e3, ?_⟩, ⟨o', e1⟩, ?_⟩, rfl, q _ (I.hok.fresh (Nat.le_refl _))⟩
    · rw [e4, ← hw]; rfl
    · rintro h1 h2 ⟨z1, z2, z3, o', es', ep', y1, y2⟩ k
      exact ⟨z1, z2, z3, o', es', ep', k _ y1, y2⟩
theorem bi_dict {fz : Bool} (hc : X.calm = true) (hw : X.w = Wd.w) (hu : X.A.units + 64 < cLine) : CallR X (.type "dict") (rM X.K (dictM fz)) := by
  intro pins s σ H xs us Q I r ⟨Xk, mu, g, ds, S, rs, h⟩
  unfold dictM at h
  split at h
  · obtain ⟨v, rfl, rv⟩ := rs.one
    try dsimp only at h
    split at h
    · rename_i ps e1
      obtain ⟨a, vs, rfl, q1, r1⟩ := rd_lst S rv e1
      split at h
      · rename_i qs e2
        split at h
        · rename_i rr e3
          obtain ⟨as, prs, rfl, hp, rp⟩ := pairs_ok r1 e2
          unfold dputsA at e3
          split at e3
          · rename_i r0 e4
            cases e3
            rw [dputs_eq] at e4
            obtain ⟨kvs, rfl, k1, k2⟩ := dmerge_ok (kvs0 := []) rp e4 .nil .nil
            exact dict_fin (Kt.mkDct S k1 k2 h) fun Q' hq => call_dictP hc pins s σ H _ us Q' I r ⟨a, as, kvs, rfl, q1, paired_kvs hp, hq⟩
          · split at e3
            · rename_i ks e5
              split at e3
              · rename_i hn
                cases e3
                obtain ⟨xs, vv, b1, b2, b3, b4, b5, b6, b7, b8⟩ := tpairs_ok I hp rp e5
                by_cases hne : xs = []
                · subst hne
                  have : qs = [] := by simpa using b7
                  subst this
                  rename_i e4
                  cases e4
                · obtain ⟨u, eu, rx⟩ := vals1 r
                  subst eu
                  cases rx
                  have c : ∀ p, DctC p (dN p xs) (xs.map fun x => V.ref x.2.1) vv (qs.map (·.1)) := fun p => by
                    rw [b7]
                    exact .t xs vv hne b4 fun x hx => (b3 x hx).1
                  exact dict_finF (f := fun p => dN p xs) (fun _ => True.intro) (mkDctF S c (by rw [b7]; exact b5) b6 h) fun Q' hq => call_dictT hc hw hu I q1 b2 b3 (by rw [b1]; exact hn.1) b8 hq
              · cases e3
            · cases e3
        · exact h.elim
      · exact h.elim
    · rename_i e1
      split at h
      · rename_i ha
        obtain ⟨a, kvs, rfl, q1, r1, r2⟩ := rd_dctK S rv e1 ha
        exact dict_fin (Kt.mkDct S r1 r2 h) fun Q' hq => call_dictC pins s σ H _ us Q' I r ⟨a, kvs, rfl, q1, hq⟩
      · exact h.elim
    · exact h.elim
  · exact h.elim
end
end DL

set_option Elab.async false
set_option linter.all false
set_option maxRecDepth 100000
set_option maxHeartbeats 4000000
/-! the deep layer: targets -/
namespace DL
open PySem PySem.Spec PyProof.Rows L2
variable [Wd]

section
variable {K : PySem.W.Frag} {Xk Xk' : XK} {mu : List Addr} {g : G} {H : Hp} {α β : Type}
theorem Wp.noEx {m : M α} {Q : List Addr → G → Hp → α → Prop} (h : Wp K Xk mu g H (DL.noEx m g) Q) : Wp K Xk' mu g H (m g) Q := by
  unfold DL.noEx at h
  cases e : m g with
  | ok a g' => rw [e] at h; exact h
  | ex x g' => rw [e] at h; exact h.elim
  | bad => rw [e] at h; exact h.elim
/-- a store to a[i] -/
def rSet2 (K : PySem.W.Frag) : TSet := fun vx vi vd H Q => ∃ Xk mu g x i d, Sim K mu g H ∧ RV K (Own mu g) mu H vx x ∧ RV K (Own mu g) mu H vi i ∧ RV K (Own mu g) mu H vd d ∧ Wp K Xk mu g H (setItemM x i d g) fun mu' g' H' _ => Q H'
theorem set_all {X : Cx} (hw : X.w = Wd.w) (hu : X.A.units + 64 < cLine) : PSet X (rSet2 X.K) := by
  intro pins s σ H vx vi vd ov iv uv Q I ro ri rv ⟨Xk, mu, g, x, i, d, S, rx, rdi, rd, h⟩
  unfold setItemM at h
  split at h
  · rename_i n
    obtain ⟨p, rfl, hm⟩ := rx.ref_inv
    split at h
    · rename_i xs hg
      split at h
      · rename_i k
        split at h
        · rename_i j hj
          obtain ⟨vs, hH, r⟩ := S.at_ n _ p hg hm
          have rn := r.set rd j
          have E : Ext mu g H mu (g.set n (.lst (xs.set j d))) (upd H p (.lst (vs.set j vd))) := Ext.set hg rfl hm
          have S' := S.setL hg rfl hm rn
          exact set_list pins s σ H _ vi vd ov iv uv Q I ro ri rv ⟨p, vs, k, j, rfl, rdi.int_inv, hH, by rw [r.length]; exact hj, h _ _ E S'⟩
        · exact h.elim
      · exact h.elim
    · rename_i ks vs hg
      split at h
      · rename_i k hk
        split at h
        · rename_i hz
          obtain ⟨u0, kv, vv, hH, c, r1, r2⟩ := S.at_ n _ p hg hm
          cases ro
          have e := kOf_kD hk
          rw [e] at rdi
          refine dd_set hw hu I hH ⟨c, r1, r2, rdi, hz.2⟩ hz.1 ri rv rd fun u' kv' vv' s' c' q1 q2 I' => ?_
          have E : Ext mu g H mu (g.set n (.dct (dput ks vs k d).1 (dput ks vs k d).2)) (upd H p u') := Ext.set hg rfl hm
          have S' : Sim X.K mu (g.set n (.dct (dput ks vs k d).1 (dput ks vs k d).2)) (upd H p u') := S.set hg rfl hm ⟨_, _, _, upd_same, c', q1.ext E, q2.ext E⟩
          exact ⟨_, I', h _ _ E S'⟩
        · exact h.elim
      · exact h.elim
    · exact h.elim
  · exact h.elim
end
section
variable {K : PySem.W.Frag} {own : Addr → Prop} {mu : List Addr} {H : Hp} {σ : L2.St} {ρ : Env'}
theorem RE.set (R : RE K own mu H σ ρ) {v : V} {d : D} (i : Nat) (r : RV K own mu H v d) : RE K own mu H (σ.set i (some v)) (ρ.set i (some d)) :=
  ⟨by rw [List.length_set, List.length_set]; exact R.len, fun j e h => by
    by_cases hj : i = j
    · subst hj
      have hi : i < ρ.length := by
        have := (List.getElem?_eq_some_iff.mp h).1
        rwa [List.length_set] at this
      rw [List.getElem?_set_self hi] at h
      cases h
      exact ⟨v, List.getElem?_set_self (by rw [R.len]; exact hi), r⟩
    · rw [List.getElem?_set_ne hj] at h
      rw [List.getElem?_set_ne hj]
      exact R.at_ j e h⟩
theorem RE.clear (R : RE K own mu H σ ρ) (i : Nat) : RE K own mu H (σ.set i none) (ρ.set i none) :=
  ⟨by rw [List.length_set, List.length_set]; exact R.len, fun j e h => by
    by_cases hj : i = j
    · subst hj
      have hi : i < ρ.length := by
        have := (List.getElem?_eq_some_iff.mp h).1
        rwa [List.length_set] at this
      rw [List.getElem?_set_self hi] at h
      cases h
    · rw [List.getElem?_set_ne hj] at h
      rw [List.getElem?_set_ne hj]
      exact R.at_ j e h⟩
theorem RE.wipe (R : RE K own mu H σ ρ) : ∀ vs : List Nat, RE K own mu H (L2.wipe σ vs) (wipeE ρ vs)
  | [] => R
  | v :: vs => (R.wipe vs).clear v
end
/-- the same but for the slots vs -/
def Agr (vs : List Nat) (σ σ' : L2.St) : Prop := σ'.length = σ.length ∧ ∀ i, i ∉ vs → σ'[i]? = σ[i]?
theorem Agr.refl {vs : List Nat} {σ : L2.St} : Agr vs σ σ := ⟨rfl, fun _ _ => rfl⟩
theorem Agr.trans {vs ws : List Nat} {σ σ1 σ2 : L2.St} (h : Agr vs σ σ1) (h2 : Agr ws σ1 σ2) : Agr (vs ++ ws) σ σ2 :=
  ⟨h2.1.trans h.1, fun i hi => (h2.2 i fun z => hi (List.mem_append_right _ z)).trans (h.2 i fun z => hi (List.mem_append_left _ z))⟩
theorem Agr.set {i : Nat} {σ : L2.St} {o : Option V} : Agr [i] σ (σ.set i o) := ⟨List.length_set, fun j hj => by rw [List.getElem?_set_ne (fun e => hj (by simp [e]))]⟩
theorem wipe_get {σ : L2.St} {i : Nat} : ∀ {vs : List Nat}, (L2.wipe σ vs)[i]? = if i ∈ vs then (if i < σ.length then some none else none) else σ[i]?
  | [] => by simp [L2.wipe]
  | v :: vs => by
    unfold L2.wipe
    by_cases hv : v = i
    · subst hv
      rw [if_pos (List.mem_cons_self ..), List.getElem?_set_self', wipe_get]
      by_cases hl : v < σ.length
      · by_cases hm : v ∈ vs
        · rw [if_pos hm, if_pos hl]; rfl
        · rw [if_neg hm, if_pos hl, List.getElem?_eq_getElem hl]; rfl
      · by_cases hm : v ∈ vs
        · rw [if_pos hm, if_neg hl]; rfl
        · rw [if_neg hm, if_neg hl, List.getElem?_eq_none (by omega)]; rfl
    · rw [List.getElem?_set_ne hv, wipe_get]
      have : i ∈ v :: vs ↔ i ∈ vs := by
        rw [List.mem_cons]
        exact ⟨fun z => z.elim (fun e => absurd e.symm hv) id, .inr⟩
      simp only [this]
theorem Agr.wipe {vs ws : List Nat} {σ σ' : L2.St} (h : Agr vs (L2.wipe σ ws) σ') (hs : ∀ i ∈ vs, i ∈ ws) : L2.wipe σ' ws = L2.wipe σ ws := by
  have hl : σ'.length = σ.length := by rw [h.1, wipe_length]
  refine List.ext_getElem? fun i => ?_
  rw [wipe_get, wipe_get, hl]
  by_cases hi : i ∈ ws
  · rw [if_pos hi, if_pos hi]
  · rw [if_neg hi, if_neg hi, h.2 i (fun z => hi (hs i z)), wipe_get, if_neg hi]
abbrev FT := D → Env' → M Env'
abbrev FTs := List D → Env' → M Env'
def tG (K : PySem.W.Frag) (vs : List Nat) (F : FT) : TG := fun v σ H Q => ∃ mu g ρ d, Sim K mu g H ∧ RE K (Own mu g) mu H σ ρ ∧ RV K (Own mu g) mu H v d ∧
  Wp K (fun _ _ _ => False) mu g H (F d ρ g) fun mu' g' H' ρ' => ∀ σ', RE K (Own mu' g') mu' H' σ' ρ' → Agr vs σ σ' → Q σ' H'
def tGs (K : PySem.W.Frag) (vs : List Nat) (F : FTs) : TGs := fun xs σ H Q => ∃ mu g ρ ds, Sim K mu g H ∧ RE K (Own mu g) mu H σ ρ ∧ RVs K (Own mu g) mu H xs ds ∧
  Wp K (fun _ _ _ => False) mu g H (F ds ρ g) fun mu' g' H' ρ' => ∀ σ', RE K (Own mu' g') mu' H' σ' ρ' → Agr vs σ σ' → Q σ' H'
section
variable {X : Cx} {W : WX} {a b c e o tg : Expr} {es : List Expr} {Fa Fb Fc Fo : FE} {Ft : FT} {Fts : FTs} {pos p : Pos} {x : Str} {vs ws : List Nat}
theorem pg_mono {t t' : TG} (h : PG X e t) (m : ∀ v σ H Q, t' v σ H Q → t v σ H Q) : PG X e t' := ⟨fun pins s σ H v u Q I r q => h.run pins s σ H v u Q I r (m v σ H Q q)⟩
theorem pgs_mono {t t' : TGs} (h : PGs X es t) (m : ∀ v σ H Q, t' v σ H Q → t v σ H Q) : PGs X es t' := ⟨fun pins s σ H v u Q I r q => h.run pins s σ H v u Q I r (m v σ H Q q)⟩
theorem pg_or {t t' : TG} (h : PG X e t) (h' : PG X e t') : PG X e (fun v σ H Q => t v σ H Q ∨ t' v σ H Q) := ⟨fun pins s σ H v u Q I r q => q.elim (h.run pins s σ H v u Q I r) (h'.run pins s σ H v u Q I r)⟩
theorem sg_name {i : Nat} (hN : X.N.Nodup) (hi : X.N[i]? = some x) (hx : Loc X.env.scope x) (hf : X.fn x = true ∨ X.env.scope.names.lookup x = some .local) : PG X (.Name x pos) (tG X.K [i] fun d ρ => pure (ρ.set i (some d))) :=
  pg_mono (pg_name hN hi hx hf) fun v σ H Q ⟨mu, g, ρ, d, S, R, r, h⟩ => Wp.here S h _ (R.set i r) Agr.set
theorem sgs_nil : PGs X [] (tGs X.K [] fun ds ρ => match ds with
    | [] => pure ρ
    | _ => M.bad) :=
  pgs_mono pgs_nil fun v σ H Q ⟨mu, g, ρ, ds, S, R, r, h⟩ => by
    cases ds with
    | nil => exact ⟨r.nil_inv, Wp.here S h _ R Agr.refl⟩
    | cons d ds => exact h.elim
theorem sgs_cons (h1 : PG X e (tG X.K vs Ft)) (h2 : PGs X es (tGs X.K ws Fts)) (hs : (assignEach (e :: es) X.env).map (·.2) = assign e X.env :: (assignEach es X.env).map (·.2)) : PGs X (e :: es) (tGs X.K (vs ++ ws) fun ds ρ => match ds with
    | d :: ds => do
      let ρ1 ← Ft d ρ
      Fts ds ρ1
    | _ => M.bad) :=
  pgs_mono (pgs_cons h1 h2 hs) fun v σ H Q ⟨mu, g, ρ, ds, S, R, r, h⟩ => by
    cases ds with
    | nil => exact h.elim
    | cons d ds =>
      cases r with
      | cons r rr =>
        exact ⟨_, _, rfl, mu, g, ρ, d, S, R, r, (Wp.bd h).mono fun mu1 g1 H1 ρ1 e1 S1 h1 σ1 R1 A1 => ⟨mu1, g1, ρ1, ds, S1, R1, rr.ext e1, h1.mono fun mu2 g2 H2 ρ2 e2 S2 q σ2 R2 A2 => q σ2 R2 (A1.trans A2)⟩⟩
theorem sg_tup {n k : Nat} (hc : X.calm = true) (h : PGs X es (tGs X.K vs Fts)) (hn : (assignEach es X.env).length = n) (hst : (assignEach es X.env).findIdx? (·.1) = none) : PG X (.Tuple es k pos) (tG X.K vs fun d ρ => do
    let x ← rdM d
    let ds ← optM (itemsD x)
    needM (ds.length = n)
    Fts ds ρ) :=
  pg_mono (pg_or (pg_tup hc h hn hst) (pg_lst hc h hn hst)) fun v σ H Q ⟨mu, g, ρ, d, S, R, r, h⟩ => by
    obtain ⟨ds, hd, k⟩ := Wp.optB (Wp.rdI h)
    obtain ⟨hl, k⟩ := Wp.needI k
    unfold itemsD at hd
    split at hd
    · rename_i e1
      cases hd
      obtain ⟨a, xs, rfl, q, rs⟩ := rd_tup r e1
      exact .inl ⟨a, xs, rfl, q, rs.length.trans hl, mu, g, ρ, _, S, R, rs, k⟩
    · rename_i e1
      cases hd
      obtain ⟨a, xs, rfl, q, rs⟩ := rd_lst S r e1
      exact .inr ⟨a, xs, rfl, q, rs.length.trans hl, mu, g, ρ, _, S, R, rs, k⟩
    · cases hd
theorem pset_or {t t' : TSet} (h : PSet X t) (h' : PSet X t') : PSet X (fun o i v H Q => t o i v H Q ∨ t' o i v H Q) := fun pins s σ H o i v ov iv u Q I ro ri rv q => q.elim (h pins s σ H o i v ov iv u Q I ro ri rv) (h' pins s σ H o i v ov iv u Q I ro ri rv)
theorem sg_ix (hw : X.w = Wd.w) (hu : X.A.units + 64 < cLine) (ha : PE X a (tE X.K (fun _ _ _ _ => False) Fa)) (hb : PE X b (tE X.K (fun _ _ _ _ => False) Fb)) (has : ∀ v, assign (.Subscript a b pos) X.env v = (do
      let ov ← holding [v] (eval a X.env)
      let iv ← holding [v, ov] (eval b X.env)
      standAt pos
      holding [v, ov, iv] (setItem ov iv v)
      release [v, ov, iv] [])) : PG X (.Subscript a b pos) (tG X.K [] fun d ρ => do
    let x ← Fa ρ
    let y ← Fb ρ
    setItemM x y d
    pure ρ) :=
  pg_mono (pg_sub ha hb (set_all hw hu) has) fun v σ H Q ⟨mu, g, ρ, d, S, R, r, h⟩ => ⟨mu, g, ρ, S, R, (Wp.bd h).mono fun mu1 g1 H1 d1 e1 S1 h1 v1 r1 => ⟨mu1, g1, ρ, S1, R.ext e1, (Wp.bd h1).mono fun mu2 g2 H2 d2 e2 S2 h2 v2 r2 =>
    ⟨_, mu2, g2, d1, d2, d, S2, r1.ext e2, r2, (r.ext e1).ext e2, (Wp.bd h2).mono fun mu3 g3 H3 _ e3 S3 h3 => Wp.here S3 h3 _ (((R.ext e1).ext e2).ext e3) Agr.refl⟩⟩⟩
end

/-! ### what is gone through -/
/-- J goes through what it0 says -/
def ItOk (K : PySem.W.Frag) (J : It) (it : It0) (mu : List Addr) (g : G) (H : Hp) : Prop := ∀ mu' g' H', Ext mu g H mu' g' H' → Sim K mu' g' H' → ∀ i,
  (it.at g' i = some none → J.stop i H') ∧
  ∀ d, it.at g' i = some (some d) → J.go i H' ∧ ∀ x H'', J.yld i H' x H'' → Ext mu' g' H' mu' g' H'' ∧ Sim K mu' g' H'' ∧ RV K (Own mu' g') mu' H'' x d
def tIt (K : PySem.W.Frag) (W : WX) (F : Env' → M It0) : TI := fun σ H R' => ∃ mu g ρ, Sim K mu g H ∧ RE K (Own mu g) mu H σ ρ ∧
  Wp K (fun c d H => W c d σ H) mu g H (F ρ g) fun mu' g' H' it => ∀ J, ItOk K J it mu' g' H' → R' J H'
section
variable {X : Cx} {W : WX} {a b c e o tg : Expr} {es : List Expr} {Fa Fb Fc Fo : FE} {Fs : Env' → M (List D)} {pos p apos : Pos} {x : Str}
theorem pi_mono {wi wi' : TI} (h : PI X tg e wi) (m : ∀ σ H R, wi' σ H R → wi σ H R) : PI X tg e wi' := ⟨fun pins s σ H R I q => h.run pins s σ H R I (m σ H R q)⟩
theorem pi_or {wi wi' : TI} (h : PI X tg e wi) (h' : PI X tg e wi') : PI X tg e (fun σ H R => wi σ H R ∨ wi' σ H R) := ⟨fun pins s σ H R I q => q.elim (h.run pins s σ H R I) (h'.run pins s σ H R I)⟩
theorem ext_tup {K : PySem.W.Frag} {mu : List Addr} {g : G} {H : Hp} {T : Addr} {vs : List V} {ds : List D} (S : Sim K mu g H) (hT : H T = none) (r : RVs K (Own mu g) mu H vs ds) :
    Ext mu g H mu g (upd H T (.tup vs)) ∧ Sim K mu g (upd H T (.tup vs)) ∧ RV K (Own mu g) mu (upd H T (.tup vs)) (.ref T) (.tup ds) :=
  ⟨Ext.new hT, S.new hT, .tup (.inl ⟨S.nown_fresh hT, .inl upd_same⟩) (r.ext (Ext.new hT))⟩
variable {K : PySem.W.Frag} {mu : List Addr} {g : G} {H : Hp} {ds : List D} {vs : List V} {q : Addr}
theorem it_dyn {n : Nat} (hm : mu[n]? = some q) : ItOk K (Itl K q) (.dyn n) mu g H := by
  intro mu' g' H' E S i
  have hm' := pre_get E.pre hm
  simp only [It0.at]
  refine ⟨fun h => ?_, fun d h => ?_⟩
  · split at h
    · rename_i ds hg
      obtain ⟨vs, hH, r⟩ := S.at_ n _ q hg hm'
      have hl := r.length
      simp only [Option.some.injEq] at h
      exact ⟨vs, .inl (.inl hH), by rw [hl]; exact List.getElem?_eq_none_iff.mp h⟩
    · cases h
  · split at h
    · rename_i ds hg
      obtain ⟨vs, hH, r⟩ := S.at_ n _ q hg hm'
      simp only [Option.some.injEq] at h
      obtain ⟨v, h1, h2⟩ := r.get h
      refine ⟨⟨vs, v, .inl (.inl hH), h1⟩, fun x H'' ⟨e1, hx⟩ => ?_⟩
      subst e1
      have := hx vs (.inl (.inl hH))
      rw [h1] at this
      cases this
      exact ⟨.refl, S, h2⟩
    · cases h
theorem it_lst (hq : LstAt K (Own mu g) H q vs) (r : RVs K (Own mu g) mu H vs ds) : ItOk K (Itl K q) (.fix ds) mu g H := by
  intro mu' g' H' E S i
  have hq' := hq.mono E.fr E.ow
  have r' := r.ext E
  refine ⟨fun h => ?_, fun d h => ?_⟩
  · simp only [It0.at, Option.some.injEq] at h
    exact ⟨vs, hq'.seq, by rw [r.length]; exact List.getElem?_eq_none_iff.mp h⟩
  · simp only [It0.at, Option.some.injEq] at h
    obtain ⟨v, h1, h2⟩ := r'.get h
    refine ⟨⟨vs, v, hq'.seq, h1⟩, fun x H'' ⟨e1, hx⟩ => ?_⟩
    subst e1
    have := hx vs hq'.seq
    rw [h1] at this
    cases this
    exact ⟨.refl, S, h2⟩
theorem it_tup (hq : TupAt K (Own mu g) H q vs) (r : RVs K (Own mu g) mu H vs ds) : ItOk K (Itt K q) (.fix ds) mu g H := by
  intro mu' g' H' E S i
  have hq' := hq.mono E.fr E.ow
  have r' := r.ext E
  refine ⟨fun h => ?_, fun d h => ?_⟩
  · simp only [It0.at, Option.some.injEq] at h
    exact ⟨vs, hq'.seq, by rw [r.length]; exact List.getElem?_eq_none_iff.mp h⟩
  · simp only [It0.at, Option.some.injEq] at h
    obtain ⟨v, h1, h2⟩ := r'.get h
    refine ⟨⟨vs, v, hq'.seq, h1⟩, fun x H'' ⟨e1, hx⟩ => ?_⟩
    subst e1
    have := hx vs hq'.seq
    rw [h1] at this
    cases this
    exact ⟨.refl, S, h2⟩
theorem it_str {z : Str} : ItOk K (Its z) (.fix (signsD z)) mu g H := by
  intro mu' g' H' E S i
  have hl : (signsD z).length = z.cps.size := by unfold signsD; rw [List.length_map, Array.length_toList]
  refine ⟨fun h => ?_, fun d h => ?_⟩
  · simp only [It0.at, Option.some.injEq] at h
    have := List.getElem?_eq_none_iff.mp h
    show z.cps.size ≤ i
    omega
  · simp only [It0.at, Option.some.injEq] at h
    have h1 : i < z.cps.size := by
      have := (List.getElem?_eq_some_iff.mp h).1
      omega
    refine ⟨h1, fun x H'' ⟨e1, c, hc, e2⟩ => ?_⟩
    subst e1 e2
    unfold signsD at h
    rw [List.getElem?_map, Array.getElem?_toList, hc] at h
    cases h
    exact ⟨.refl, S, .str _⟩
theorem it_rng {lo hi : Int} : ItOk K (Itr lo (hi - lo).toNat) (.fix (rngD lo hi)) mu g H := by
  intro mu' g' H' E S i
  have hl : (rngD lo hi).length = (hi - lo).toNat := by unfold rngD; rw [List.length_map, List.length_range]
  refine ⟨fun h => ?_, fun d h => ?_⟩
  · simp only [It0.at, Option.some.injEq] at h
    have := List.getElem?_eq_none_iff.mp h
    show (hi - lo).toNat ≤ i
    omega
  · simp only [It0.at, Option.some.injEq] at h
    have h1 : i < (hi - lo).toNat := by
      have := (List.getElem?_eq_some_iff.mp h).1
      omega
    refine ⟨h1, fun x H'' ⟨e1, e2⟩ => ?_⟩
    subst e1 e2
    unfold rngD at h
    rw [List.getElem?_map, List.getElem?_range h1] at h
    cases h
    exact ⟨.refl, S, .int _⟩
theorem it_keys {o : Obj} {kvs : List (Key × V)} (hn : ¬ Own mu g q) (hq : H q = some (.frz o (.dK kvs))) (r : RVs K (Own mu g) mu H (kvs.map fun p => kV p.1) ds) : ItOk K (Itk q o kvs) (.fix ds) mu g H := by
  intro mu' g' H' E S i
  have hq' := E.fr _ _ hq hn
  have r' := r.ext E
  have hl : ds.length = kvs.length := by rw [← r.length, List.length_map]
  refine ⟨fun h => ?_, fun d h => ?_⟩
  · simp only [It0.at, Option.some.injEq] at h
    have := List.getElem?_eq_none_iff.mp h
    exact ⟨hq', by omega⟩
  · simp only [It0.at, Option.some.injEq] at h
    obtain ⟨v, h1, h2⟩ := r'.get h
    have hi : i < kvs.length := by
      have := (List.getElem?_eq_some_iff.mp h).1
      omega
    refine ⟨⟨hq', hi⟩, fun x H'' ⟨e1, k, w, hkw, e2⟩ => ?_⟩
    subst e1 e2
    rw [List.getElem?_map, hkw] at h1
    cases h1
    exact ⟨.refl, S, h2⟩
theorem it_vals {o : Obj} {kvs : List (Key × V)} (hn : ¬ Own mu g q) (hq : H q = some (.frz o (.dK kvs))) (r : RVs K (Own mu g) mu H (kvs.map (·.2)) ds) : ItOk K (Itd q o kvs) (.fix ds) mu g H := by
  intro mu' g' H' E S i
  have hq' := E.fr _ _ hq hn
  have r' := r.ext E
  have hl : ds.length = kvs.length := by rw [← r.length, List.length_map]
  refine ⟨fun h => ?_, fun d h => ?_⟩
  · simp only [It0.at, Option.some.injEq] at h
    have := List.getElem?_eq_none_iff.mp h
    exact ⟨hq', by omega⟩
  · simp only [It0.at, Option.some.injEq] at h
    obtain ⟨v, h1, h2⟩ := r'.get h
    have hi : i < kvs.length := by
      have := (List.getElem?_eq_some_iff.mp h).1
      omega
    refine ⟨⟨hq', hi⟩, fun x H'' ⟨e1, k, hkw⟩ => ?_⟩
    subst e1
    rw [List.getElem?_map, hkw] at h1
    cases h1
    exact ⟨.refl, S, h2⟩
theorem zipD_get : ∀ {xs ys : List D} {i : Nat}, (zipD xs ys)[i]? = match xs[i]?, ys[i]? with
    | some x, some y => some (.tup [x, y])
    | _, _ => none
  | [], ys, i => by
    rw [show zipD [] ys = [] from rfl]
    simp
  | x :: xs, [], i => by
    rw [show zipD (x :: xs) [] = [] from rfl]
    cases (x :: xs)[i]? <;> simp
  | x :: xs, y :: ys, 0 => rfl
  | x :: xs, y :: ys, i + 1 => by
    show (zipD xs ys)[i]? = _
    rw [zipD_get]
    rfl
theorem it_items {o : Obj} {kvs : List (Key × V)} {ks ws : List D} (hn : ¬ Own mu g q) (hq : H q = some (.frz o (.dK kvs))) (r : RVs K (Own mu g) mu H (kvs.map fun p => kV p.1) ks) (r2 : RVs K (Own mu g) mu H (kvs.map (·.2)) ws) : ItOk K (Iti q o kvs) (.fix (zipD ks ws)) mu g H := by
  intro mu' g' H' E S i
  have hq' := E.fr _ _ hq hn
  have r' := r.ext E
  have r2' := r2.ext E
  have hl : ks.length = kvs.length := by rw [← r.length, List.length_map]
  have hl2 : ws.length = kvs.length := by rw [← r2.length, List.length_map]
  simp only [It0.at, zipD_get, Option.some.injEq]
  refine ⟨fun h => ?_, fun d h => ?_⟩
  · split at h
    · cases h
    · rename_i hh
      refine ⟨hq', Nat.le_of_not_lt fun hi => ?_⟩
      exact hh ks[i] ws[i] (List.getElem?_eq_getElem (by omega)) (List.getElem?_eq_getElem (by omega))
  · split at h
    · rename_i x y hx hy
      cases h
      obtain ⟨v, h1, h2⟩ := r'.get hx
      obtain ⟨w, h3, h4⟩ := r2'.get hy
      have hi : i < kvs.length := by
        have := (List.getElem?_eq_some_iff.mp hx).1
        omega
      refine ⟨⟨hq', hi⟩, fun z H'' ⟨T, k, u, hku, e1, hT, e2⟩ => ?_⟩
      subst e1 e2
      rw [List.getElem?_map, hku] at h1 h3
      cases h1
      cases h3
      exact ext_tup S hT (.cons h2 (.cons h4 .nil))
    · cases h
theorem it_zipL {q2 : Addr} {ws : List V} {es : List D} (hq : LstAt K (Own mu g) H q vs) (r : RVs K (Own mu g) mu H vs ds) (hq2 : LstAt K (Own mu g) H q2 ws) (r2 : RVs K (Own mu g) mu H ws es) : ItOk K (Itz K q q2) (.fix (zipD ds es)) mu g H := by
  intro mu' g' H' E S i
  have h1 := hq.mono E.fr E.ow
  have h2 := hq2.mono E.fr E.ow
  have r' := r.ext E
  have r2' := r2.ext E
  have l1 := r.length
  have l2 := r2.length
  simp only [It0.at, zipD_get, Option.some.injEq]
  refine ⟨fun h => ?_, fun d h => ?_⟩
  · split at h
    · cases h
    · rename_i hh
      refine ⟨vs, ws, h1.seq, h2.seq, ?_⟩
      by_cases hi : i < ds.length
      · by_cases hj : i < es.length
        · exact absurd (List.getElem?_eq_getElem hj) (hh ds[i] es[i] (List.getElem?_eq_getElem hi))
        · exact .inr (by omega)
      · exact .inl (by omega)
  · split at h
    · rename_i x y hx hy
      cases h
      obtain ⟨v, a1, a2⟩ := r'.get hx
      obtain ⟨w, b1, b2⟩ := r2'.get hy
      refine ⟨⟨vs, ws, v, w, h1.seq, h2.seq, a1, b1⟩, fun z H'' ⟨T, u, u2, e1, hT, e2, hu, hu2⟩ => ?_⟩
      subst e1 e2
      have := hu vs h1.seq
      rw [a1] at this
      cases this
      have := hu2 ws h2.seq
      rw [b1] at this
      cases this
      exact ext_tup S hT (.cons a2 (.cons b2 .nil))
    · cases h
theorem it_zipT {q2 : Addr} {ws : List V} {es : List D} (hq : TupAt K (Own mu g) H q vs) (r : RVs K (Own mu g) mu H vs ds) (hq2 : TupAt K (Own mu g) H q2 ws) (r2 : RVs K (Own mu g) mu H ws es) : ItOk K (RZ.ItzT K q q2) (.fix (zipD ds es)) mu g H := by
  intro mu' g' H' E S i
  have h1 := hq.mono E.fr E.ow
  have h2 := hq2.mono E.fr E.ow
  have r' := r.ext E
  have r2' := r2.ext E
  have l1 := r.length
  have l2 := r2.length
  simp only [It0.at, zipD_get, Option.some.injEq]
  refine ⟨fun h => ?_, fun d h => ?_⟩
  · split at h
    · cases h
    · rename_i hh
      refine ⟨vs, ws, h1.seq, h2.seq, ?_⟩
      by_cases hi : i < ds.length
      · by_cases hj : i < es.length
        · exact absurd (List.getElem?_eq_getElem hj) (hh ds[i] es[i] (List.getElem?_eq_getElem hi))
        · exact .inr (by omega)
      · exact .inl (by omega)
  · split at h
    · rename_i x y hx hy
      cases h
      obtain ⟨v, a1, a2⟩ := r'.get hx
      obtain ⟨w, b1, b2⟩ := r2'.get hy
      refine ⟨⟨vs, ws, v, w, h1.seq, h2.seq, a1, b1⟩, fun z H'' ⟨T, u, u2, e1, hT, e2, hu, hu2⟩ => ?_⟩
      subst e1 e2
      have := hu vs h1.seq
      rw [a1] at this
      cases this
      have := hu2 ws h2.seq
      rw [b1] at this
      cases this
      exact ext_tup S hT (.cons a2 (.cons b2 .nil))
    · cases h
theorem it_enum (hq : LstAt K (Own mu g) H q vs) (r : RVs K (Own mu g) mu H vs ds) : ItOk K (Ite K q) (.fix (enumD ds)) mu g H := by
  intro mu' g' H' E S i
  have h1 := hq.mono E.fr E.ow
  have r' := r.ext E
  have l1 := r.length
  have hl : (enumD ds).length = ds.length := by unfold enumD; rw [List.length_map, List.length_range]
  simp only [It0.at, Option.some.injEq]
  refine ⟨fun h => ?_, fun d h => ?_⟩
  · have := List.getElem?_eq_none_iff.mp h
    exact ⟨vs, h1.seq, by omega⟩
  · have hi : i < ds.length := by
      have := (List.getElem?_eq_some_iff.mp h).1
      omega
    unfold enumD at h
    rw [List.getElem?_map, List.getElem?_range hi] at h
    cases h
    have hx : ds[i]? = some (ds.getD i .non) := by simp [List.getD, hi]
    obtain ⟨v, a1, a2⟩ := r'.get hx
    refine ⟨⟨vs, v, h1.seq, a1⟩, fun z H'' ⟨T, u, e1, hT, e2, hu⟩ => ?_⟩
    subst e1 e2
    have := hu vs h1.seq
    rw [a1] at this
    cases this
    exact ext_tup S hT (.cons (.int _) (.cons a2 .nil))
theorem it_enumT (hq : TupAt K (Own mu g) H q vs) (r : RVs K (Own mu g) mu H vs ds) : ItOk K (IteT K q vs.length) (.fix (enumD ds)) mu g H := by
  intro mu' g' H' E S i
  have h1 := hq.mono E.fr E.ow
  have r' := r.ext E
  have l1 := r.length
  have hl : (enumD ds).length = ds.length := by unfold enumD; rw [List.length_map, List.length_range]
  simp only [It0.at, Option.some.injEq]
  refine ⟨fun h => ?_, fun d h => ?_⟩
  · have := List.getElem?_eq_none_iff.mp h
    exact ⟨vs, h1.seq, rfl, by omega⟩
  · have hi : i < ds.length := by
      have := (List.getElem?_eq_some_iff.mp h).1
      omega
    unfold enumD at h
    rw [List.getElem?_map, List.getElem?_range hi] at h
    cases h
    have hx : ds[i]? = some (ds.getD i .non) := by simp [List.getD, hi]
    obtain ⟨v, a1, a2⟩ := r'.get hx
    refine ⟨⟨vs, v, h1.seq, rfl, a1⟩, fun z H'' ⟨T, u, e1, hT, e2, hu⟩ => ?_⟩
    subst e1 e2
    have := hu vs h1.seq
    rw [a1] at this
    cases this
    exact ext_tup S hT (.cons (.int _) (.cons a2 .nil))
end
end DL

set_option Elab.async false
set_option linter.all false
set_option maxRecDepth 100000
set_option maxHeartbeats 4000000
/-! the deep layer: loops and statements -/
namespace DL
open PySem PySem.Spec PyProof.Rows L2
variable [Wd]

section
variable {X : Cx} {W : WX} {a b c e o tg : Expr} {es : List Expr} {Fa Fb Fc Fo : FE} {Fs : Env' → M (List D)} {pos p apos : Pos} {x : Str}
/-- what an expression gives is gone through -/
theorem si_e (ha : PE X a (tE X.K W Fa)) : PI X tg a (tIt X.K W fun ρ => do
    let x ← Fa ρ
    itM x) :=
  pi_mono (pi_or (pi_or (pi_list ha) (pi_tup ha)) (pi_or (pi_str ha) (pi_keys ha))) fun σ H R' ⟨mu, g, ρ, S, R, h⟩ => by
    have key : ∀ d g1, (∃ it, itOf g1 d = some it) ∨ itOf g1 d = none := fun d g1 => by cases itOf g1 d <;> simp
    have h' := Wp.bd h
    -- which kind of value comes is told by the reading alone
    cases hr : Fa ρ g with
    | bad => rw [hr] at h'; exact h'.elim
    | ex x g1 =>
      rw [hr] at h'
      exact .inl (.inl ⟨mu, g, ρ, S, R, by rw [hr]; exact h'⟩)
    | ok d g1 =>
      rw [hr] at h'
      have go : ∀ (Q : VK), (∀ mu1 H1, Ext mu g H mu1 g1 H1 → Sim X.K mu1 g1 H1 → ∀ v, RV X.K (Own mu1 g1) mu1 H1 v d → Q v H1) → tE X.K W Fa σ H Q := fun Q hQ => ⟨mu, g, ρ, S, R, by rw [hr]; exact hQ⟩
      have base : ∀ mu1 H1, Ext mu g H mu1 g1 H1 → Sim X.K mu1 g1 H1 → ∀ it, itOf g1 d = some it → ∀ J, ItOk X.K J it mu1 g1 H1 → R' J H1 := fun mu1 H1 e1 S1 it hi J hJ => by
        have h1 := h' mu1 H1 e1 S1
        simp only [itM, hi] at h1
        exact Wp.here S1 h1 J hJ
      have nob : ∀ mu1 H1, Ext mu g H mu1 g1 H1 → Sim X.K mu1 g1 H1 → itOf g1 d ≠ none := fun mu1 H1 e1 S1 hn => by
        have h1 := h' mu1 H1 e1 S1
        simp only [itM, hn] at h1
        exact h1
      cases d with
      | tup ds =>
        refine .inl (.inr (go _ fun mu1 H1 e1 S1 v r => ?_))
        obtain ⟨q, vs, rfl, hq, rs⟩ := r.tup_inv
        exact ⟨q, rfl, ⟨vs, hq.seq⟩, base mu1 H1 e1 S1 _ rfl _ (it_tup hq rs)⟩
      | lst ds =>
        refine .inl (.inl (go _ fun mu1 H1 e1 S1 v r => ?_))
        cases r with
        | lst hq rs => exact ⟨_, rfl, ⟨_, hq.seq⟩, base mu1 H1 e1 S1 _ rfl _ (it_lst hq rs)⟩
      | str z =>
        refine .inr (.inl (go _ fun mu1 H1 e1 S1 v r => ?_))
        exact ⟨z, r.str_inv, base mu1 H1 e1 S1 _ rfl _ it_str⟩
      | dct ks ws =>
        refine .inr (.inr (go _ fun mu1 H1 e1 S1 v r => ?_))
        cases r with
        | dct hn hq cc r1 r2 =>
          by_cases hat : atomsB ks = true
          · obtain ⟨kvs, rfl, rfl, rfl⟩ := cc.atoms hat
            exact ⟨_, _, rfl, .inl ⟨_, hq, base mu1 H1 e1 S1 _ (if_pos hat) _ (it_keys hn hq r1)⟩⟩
          · exact absurd (if_neg hat) (nob mu1 H1 e1 S1)
      | ref n =>
        refine .inl (.inl (go _ fun mu1 H1 e1 S1 v r => ?_))
        obtain ⟨q, rfl, hm⟩ := r.ref_inv
        cases hi : itOf g1 (.ref n) with
        | none => exact absurd hi (nob mu1 H1 e1 S1)
        | some it =>
          have hi0 := hi
          simp only [itOf] at hi
          split at hi
          · rename_i ds hg
            cases hi
            obtain ⟨vs, hH, rs⟩ := S1.at_ n _ q hg hm
            exact ⟨q, rfl, ⟨vs, .inl (.inl hH)⟩, base mu1 H1 e1 S1 _ hi0 _ (it_dyn hm)⟩
          · cases hi
      | _ => exact .inl (.inl (go _ fun mu1 H1 e1 S1 v r => absurd rfl (nob mu1 H1 e1 S1)))
theorem si_rng1 (hg : Gl X "range") (hm : X.mg "range" = none) (ha : PE X a (tE X.K W Fa)) (hs : starEach [a] X.env = (false, eval a X.env) :: starEach [] X.env) : PI X tg (.Call (.Name "range" p) [a] [] pos) (tIt X.K W fun ρ => do
    let x ← Fa ρ
    match x with
    | .int j => do
      needM (-(2 ^ 62) ≤ j ∧ j < 2 ^ 62)
      pure (.fix (rngD 0 j))
    | _ => M.bad) :=
  pi_mono (pi_range1 hg hm (pa_cons ha pa_nil hs) hs) fun σ H R' ⟨mu, g, ρ, S, R, h⟩ => ⟨mu, g, ρ, S, R, (Wp.bd h).mono fun mu1 g1 H1 d e1 S1 h1 v r => by
    cases d with
    | int j =>
      obtain ⟨⟨q1, q2⟩, k⟩ := Wp.needI h1
      refine ⟨j, by rw [r.int_inv], q1, q2, Wp.here S1 k _ ?_⟩
      have e : j.toNat = (j - 0).toNat := by rw [Int.sub_zero]
      rw [e]
      exact it_rng
    | _ => exact h1.elim⟩
theorem si_rng2 (hg : Gl X "range") (hm : X.mg "range" = none) (ha : PE X a (tE X.K W Fa)) (hb : PE X b (tE X.K W Fb)) (hs : starEach [a, b] X.env = (false, eval a X.env) :: starEach [b] X.env) (hs2 : starEach [b] X.env = (false, eval b X.env) :: starEach [] X.env) : PI X tg (.Call (.Name "range" p) [a, b] [] pos) (tIt X.K W fun ρ => do
    let x ← Fa ρ
    let y ← Fb ρ
    match x, y with
    | .int i, .int j => do
      needM (-(2 ^ 62) ≤ i ∧ i < 2 ^ 62 ∧ -(2 ^ 62) ≤ j ∧ j < 2 ^ 62)
      pure (.fix (rngD i j))
    | _, _ => M.bad) :=
  pi_mono (pi_range2 hg hm (pa_cons ha (pa_cons hb pa_nil hs2) hs) (by rw [hs, hs2]; rfl) hs2) fun σ H R' ⟨mu, g, ρ, S, R, h⟩ => ⟨mu, g, ρ, S, R, (Wp.bd h).mono fun mu1 g1 H1 d e1 S1 h1 v r => ⟨mu1, g1, ρ, S1, R.ext e1, (Wp.bd h1).mono fun mu2 g2 H2 d2 e2 S2 h2 v2 r2 => by
    cases d with
    | int i =>
      cases d2 with
      | int j =>
        obtain ⟨q, k⟩ := Wp.needI h2
        exact ⟨i, j, by rw [r.int_inv, r2.int_inv], q, Wp.here S2 k _ it_rng⟩
      | _ => exact h2.elim
    | _ => exact h2.elim⟩⟩
theorem si_enum {elts : List Expr} {kk : Nat} {tpos : Pos} (hg : Gl X "enumerate") (hm : X.mg "enumerate" = none) (ha : PE X a (tE X.K W Fa)) (hs : starEach [a] X.env = (false, eval a X.env) :: starEach [] X.env) : PI X (.Tuple elts kk tpos) (.Call (.Name "enumerate" p) [a] [] pos) (tIt X.K W fun ρ => do
    let x ← Fa ρ
    match x with
    | .lst ds => pure (.fix (enumD ds))
    | .tup ds => pure (.fix (enumD ds))
    | _ => M.bad) :=
  pi_mono (pi_enumA hg hm (pa_cons ha pa_nil hs) hs) fun σ H R' ⟨mu, g, ρ, S, R, h⟩ => ⟨mu, g, ρ, S, R, (Wp.bd h).mono fun mu1 g1 H1 d e1 S1 h1 v r => by
    cases d with
    | lst ds =>
      cases r with
      | lst hq rs => exact ⟨_, _, rfl, .inl ⟨hq.seq, Wp.here S1 h1 _ (it_enum hq rs)⟩⟩
    | tup ds =>
      cases r with
      | tup hq rs => exact ⟨_, _, rfl, .inr ⟨hq.seq, Wp.here S1 h1 _ (it_enumT hq rs)⟩⟩
    | _ => exact h1.elim⟩
theorem si_zip {elts : List Expr} {kk : Nat} {tpos : Pos} (hg : Gl X "zip") (hm : X.mg "zip" = none) (ha : PE X a (tE X.K W Fa)) (hb : PE X b (tE X.K W Fb)) (hs : starEach [a, b] X.env = (false, eval a X.env) :: starEach [b] X.env) (hs2 : starEach [b] X.env = (false, eval b X.env) :: starEach [] X.env) : PI X (.Tuple elts kk tpos) (.Call (.Name "zip" p) [a, b] [] pos) (tIt X.K W fun ρ => do
    let x ← Fa ρ
    let y ← Fb ρ
    match x, y with
    | .lst xs, .lst ys => pure (.fix (zipD xs ys))
    | .tup xs, .tup ys => pure (.fix (zipD xs ys))
    | _, _ => M.bad) :=
  pi_mono (RZ.pi_zipA hg hm (pa_cons ha (pa_cons hb pa_nil hs2) hs) hs (by rw [hs2]; rfl)) fun σ H R' ⟨mu, g, ρ, S, R, h⟩ => ⟨mu, g, ρ, S, R, (Wp.bd h).mono fun mu1 g1 H1 d e1 S1 h1 v r => ⟨mu1, g1, ρ, S1, R.ext e1, (Wp.bd h1).mono fun mu2 g2 H2 d2 e2 S2 h2 v2 r2 => by
    cases d with
    | lst xs =>
      cases d2 with
      | lst ys =>
        have r' := r.ext e2
        cases r' with
        | lst hq rs =>
          cases r2 with
          | lst hq2 rs2 => exact ⟨_, _, _, _, rfl, .inl ⟨hq.seq, hq2.seq, Wp.here S2 h2 _ (it_zipL hq rs hq2 rs2)⟩⟩
      | _ => exact h2.elim
    | tup xs =>
      cases d2 with
      | tup ys =>
        have r' := r.ext e2
        cases r' with
        | tup hq rs =>
          cases r2 with
          | tup hq2 rs2 => exact ⟨_, _, _, _, rfl, .inr ⟨hq.seq, hq2.seq, Wp.here S2 h2 _ (it_zipT hq rs hq2 rs2)⟩⟩
      | _ => exact h2.elim
    | _ => exact h2.elim⟩⟩
theorem si_items {elts : List Expr} {kk : Nat} {tpos cpos : Pos} (ha : PE X a (tE X.K W Fa)) (hbase : attributeBase a "items" X.env (eval a X.env) = eval a X.env) (hline : (apos.endLine == cpos.line) = true) : PI X (.Tuple elts kk tpos) (.Call (.Attribute a "items" apos) [] [] cpos) (tIt X.K W fun ρ => do
    let x ← Fa ρ
    match x with
    | .dct ks vs => if atomsB ks = true then pure (.fix (zipD ks vs)) else M.bad
    | _ => M.bad) :=
  pi_mono (pi_items ha hbase hline) fun σ H R' ⟨mu, g, ρ, S, R, h⟩ => ⟨mu, g, ρ, S, R, (Wp.bd h).mono fun mu1 g1 H1 d e1 S1 h1 v r => by
    cases d with
    | dct ks ws =>
      cases r with
      | dct hn hq cc r1 r2 =>
        simp only at h1
        split at h1
        · rename_i hat
          obtain ⟨kvs, rfl, rfl, rfl⟩ := cc.atoms hat
          exact ⟨_, _, _, rfl, hq, Wp.here S1 h1 _ (it_items hn hq r1 r2)⟩
        · exact h1.elim
    | _ => exact h1.elim⟩
theorem si_vals {cpos : Pos} (ha : PE X a (tE X.K W Fa)) (hbase : attributeBase a "values" X.env (eval a X.env) = eval a X.env) (hline : (apos.endLine == cpos.line) = true) : PI X tg (.Call (.Attribute a "values" apos) [] [] cpos) (tIt X.K W fun ρ => do
    let x ← Fa ρ
    match x with
    | .dct ks vs => if atomsB ks = true then pure (.fix vs) else M.bad
    | _ => M.bad) :=
  pi_mono (pi_values ha hbase hline) fun σ H R' ⟨mu, g, ρ, S, R, h⟩ => ⟨mu, g, ρ, S, R, (Wp.bd h).mono fun mu1 g1 H1 d e1 S1 h1 v r => by
    cases d with
    | dct ks ws =>
      cases r with
      | dct hn hq cc r1 r2 =>
        simp only at h1
        split at h1
        · rename_i hat
          obtain ⟨kvs, rfl, rfl, rfl⟩ := cc.atoms hat
          exact ⟨_, _, _, rfl, hq, Wp.here S1 h1 _ (it_vals hn hq r2)⟩
        · exact h1.elim
    | _ => exact h1.elim⟩
end

/-! ### statements -/
section
variable {K : PySem.W.Frag} {W : WX} {D' D2 : Ends} {mu : List Addr} {g : G} {H : Hp} {α : Type}
theorem Wp.lift {ρ : Env'} {σ : L2.St} {m : M α} {k : α → M (Fl × Env')} (R : RE K (Own mu g) mu H σ ρ) (h : Wp K (fun _ _ _ => False) mu g H (liftS ρ m k g) (flEnd K W D')) :
    Wp K (fun c d H => W c d σ H) mu g H (m g) fun mu' g' H' a => Wp K (fun _ _ _ => False) mu' g' H' (k a g') (flEnd K W D') := by
  unfold liftS at h
  cases e : m g with
  | ok a g' =>
    rw [e] at h
    exact fun mu' H' e' s => Wp.ext e' h
  | ex x g' =>
    rw [e] at h
    exact fun mu' H' dx e' s xr => (h mu' H' e' s) σ dx (R.ext e') xr
  | bad => rw [e] at h; exact h.elim
theorem Wp.liftI {ρ : Env'} {σ : L2.St} {m : M α} {k : α → M (Fl × Env')} {P : Prop} (R : RE K (Own mu g) mu H σ ρ) (h : Wp K (fun _ _ _ => False) mu g H (liftS ρ m k g) (flEnd K W D')) (f : (Wp K (fun c d H => W c d σ H) mu g H (m g) fun mu' g' H' a => Wp K (fun _ _ _ => False) mu' g' H' (k a g') (flEnd K W D')) → P) : P := f (Wp.lift R h)
end
section
variable {X : Cx} {W : WX} {a b c e o tg iter : Expr} {es : List Expr} {Fa Fb Fc Fo : FE} {Fs : Env' → M (List D)} {F1 F2 : FS} {pos p apos : Pos} {x : Str} {body orelse : List Stmt} {vs : List Nat} {Ft : FT} {Fi : Env' → M It0} {Tc : Env' → M Bool}
theorem ss_ex (ha : PE X a (tE X.K W Fa)) (hs : swapsWith a none pos.line X.env = pure false) : PS X (.Expr a pos) (tS X.K W fun ρ => liftS ρ (Fa ρ) fun _ => pure (.nx, ρ)) :=
  ps_mono (ps_expr ha hs) fun D' σ H ⟨mu, g, ρ, S, R, h⟩ => ⟨mu, g, ρ, S, R, (Wp.lift R h).mono fun mu1 g1 H1 d e1 S1 h1 v r => Wp.here S1 h1 σ (R.ext e1)⟩
theorem ss_ret (ha : PE X a (tE X.K W Fa)) : PS X (.Return (some a) pos) (tS X.K W fun ρ => liftS ρ (Fa ρ) fun d => pure (.rt d, ρ)) :=
  ps_mono (ps_ret ha) fun D' σ H ⟨mu, g, ρ, S, R, h⟩ => ⟨mu, g, ρ, S, R, (Wp.lift R h).mono fun mu1 g1 H1 d e1 S1 h1 v r => Wp.here S1 h1 v r⟩
theorem ss_retn : PS X (.Return none pos) (tS X.K W fun ρ => pure (.rt .non, ρ)) := ps_mono ps_retN fun D' σ H ⟨mu, g, ρ, S, R, h⟩ => Wp.here S h .non .non
theorem ss_pas : PS X (.Pass pos) (tS X.K W fun ρ => pure (.nx, ρ)) := ps_mono ps_pass fun D' σ H ⟨mu, g, ρ, S, R, h⟩ => Wp.here S h σ R
theorem ss_brk : PS X (.Break pos) (tS X.K W fun ρ => pure (.bk, ρ)) := ps_mono ps_break fun D' σ H ⟨mu, g, ρ, S, R, h⟩ => Wp.here S h σ R
theorem ss_cnt : PS X (.Continue pos) (tS X.K W fun ρ => pure (.ct, ρ)) := ps_mono ps_continue fun D' σ H ⟨mu, g, ρ, S, R, h⟩ => Wp.here S h σ R
theorem ss_iff (hc : PT X c (tT X.K W Tc)) (ha : PSs X body (tS X.K W F1)) (hb : PSs X orelse (tS X.K W F2)) : PS X (.If c body orelse pos) (tS X.K W fun ρ => liftS ρ (Tc ρ) fun k => if k then F1 ρ else F2 ρ) :=
  ps_mono (ps_if hc ha hb) fun D' σ H ⟨mu, g, ρ, S, R, h⟩ => ⟨mu, g, ρ, S, R, (Wp.lift R h).mono fun mu1 g1 H1 k e1 S1 h1 => by
    cases k with
    | true => exact ⟨mu1, g1, ρ, S1, R.ext e1, h1⟩
    | false => exact ⟨mu1, g1, ρ, S1, R.ext e1, h1⟩⟩
theorem ss_asg (ha : PE X a (tE X.K W Fa)) (hg : PG X tg (tG X.K vs Ft)) (hs : swapsWithSole [tg] a pos.line X.env = pure false) (hw : swappedStores [tg] a X.env = pure none) (h1 : (assignEach [tg] X.env).map (·.2) = [assign tg X.env]) :
    PS X (.Assign [tg] a pos) (tS X.K W fun ρ => liftS ρ (Fa ρ) fun d => do
      let ρ' ← noEx (Ft d ρ)
      pure (.nx, ρ')) :=
  ps_mono (ps_asg ha hg hs hw h1) fun D' σ H ⟨mu, g, ρ, S, R, h⟩ => ⟨mu, g, ρ, S, R, (Wp.lift R h).mono fun mu1 g1 H1 d e1 S1 h1 v r =>
    ⟨mu1, g1, ρ, d, S1, R.ext e1, r, (Wp.noEx (Wp.bd h1)).mono fun mu2 g2 H2 ρ2 e2 S2 h2 σ2 R2 _ => Wp.here S2 h2 σ2 R2⟩⟩
theorem rput_ok {K : PySem.W.Frag} {own : Addr → Prop} {mu : List Addr} {H : Hp} {f : Str} {v : V} {d : D} (hv : RV K own mu H v d) : ∀ {fs : List (Str × V)} {ds : List D}, RVs K own mu H (fs.map (·.2)) ds →
    (putF f v fs).map (·.1) = (fput (fs.map (·.1)) ds f d).1 ∧ RVs K own mu H ((putF f v fs).map (·.2)) (fput (fs.map (·.1)) ds f d).2
  | [], _, r => by
    cases r
    exact ⟨rfl, .cons hv .nil⟩
  | (n, w) :: fs, ds, r => by
    cases r with
    | @cons _ _ d0 ds r t =>
      simp only [putF, List.map_cons, fput]
      by_cases e : n = f
      · rw [if_pos e, if_pos e]
        exact ⟨rfl, .cons hv t⟩
      · rw [if_neg e, if_neg e]
        obtain ⟨q1, q2⟩ := rput_ok hv t
        exact ⟨by simp only [List.map_cons]; rw [q1], .cons r q2⟩
/-- o.f = a -/
theorem ss_fld {fld : Str → Str → Bool} {f : Str} {pos' : Pos} (hf : FldOk X fld) (ho : PE X o (tE X.K (fun _ _ _ _ => False) Fo)) (ha : PE X a (tE X.K W Fa)) (hs : swapsWith a (some (.Attribute o f pos')) pos.line X.env = pure false) :
    PS X (.Assign [.Attribute o f pos'] a pos) (tS X.K W fun ρ => liftS ρ (Fa ρ) fun d => do
      let ρ' ← noEx (do
        let x ← Fo ρ
        setFldM fld x f d
        pure ρ)
      pure (.nx, ρ')) :=
  ps_mono (ps_fld ho ha hs) fun D' σ H ⟨mu, g, ρ, S, R, h⟩ => ⟨mu, g, ρ, S, R, (Wp.lift R h).mono fun mu1 g1 H1 d e1 S1 h1 v r => ⟨mu1, g1, ρ, S1, R.ext e1, by
    have k1 : Wp X.K (fun _ _ _ => False) mu1 g1 H1 ((do
        let x ← Fo ρ
        setFldM fld x f d
        pure ρ : M Env') g1) _ := Wp.noEx (Wp.bd h1)
    refine (Wp.bd k1).mono fun mu2 g2 H2 d2 e2 S2 h2 v2 r2 => ?_
    have h4 := Wp.bd h2
    unfold setFldM at h4
    split at h4
    · rename_i n
      obtain ⟨q, rfl, hm⟩ := r2.ref_inv
      split at h4
      · rename_i C ns ws hg
        split at h4
        · rename_i ef
          split at h4
          · rename_i hl
            obtain ⟨dx, fs, hH, rfl, rs⟩ := S2.at_ n _ q hg hm
            obtain ⟨q1, q2⟩ := rput_ok (f := f) (r.ext e2) rs
            have E : Ext mu2 g2 H2 mu2 (g2.set n (.ins C (fput (fs.map (·.1)) ws f d).1 (fput (fs.map (·.1)) ws f d).2)) (upd H2 q (.ins (He.ga X.K C) dx (putF f v fs))) := Ext.set hg rfl hm
            have S3 : Sim X.K mu2 (g2.set n (.ins C (fput (fs.map (·.1)) ws f d).1 (fput (fs.map (·.1)) ws f d).2)) (upd H2 q (.ins (He.ga X.K C) dx (putF f v fs))) := S2.set hg rfl hm ⟨dx, _, upd_same, q1, q2.ext E⟩
            refine ⟨q, _, dx, fs, rfl, hH, (hf C f ef).1, (hf C f ef).2, by rw [List.length_map] at hl; omega, ?_⟩
            have k2 := Wp.here S3 (h4 _ _ E S3)
            exact Wp.here S3 k2 σ (((R.ext e1).ext e2).ext E)
          · exact h4.elim
        · exact h4.elim
      · exact h4.elim
    · exact h4.elim⟩⟩
theorem ss_augv {i : Nat} {op : Operator} {f : D → D → Option D} {pos' : Pos} (hN : X.N.Nodup) (hi : X.N[i]? = some x) (hx : Loc X.env.scope x) (hf : X.fn x = true ∨ X.env.scope.names.lookup x = some .local) (ho : OpR X (inplaceOp op) (rF2 X.K f)) (ha : PE X a (tE X.K W Fa)) :
    PS X (.AugAssign (.Name x pos') op a pos) (tS X.K W fun ρ => liftS ρ (do
      let x ← optM (slot ρ i)
      let y ← Fa ρ
      let x ← rdM x
      let y ← rdM y
      optM (f x y)) fun z => pure (.nx, ρ.set i (some z))) :=
  ps_mono (ps_aug hN hi hx ha ho hf) fun D' σ H ⟨mu, g, ρ, S, R, h⟩ => by
    obtain ⟨d0, hd0, k⟩ := Wp.optB (Wp.lift R h)
    obtain ⟨v0, hv0, r0⟩ := R.at_ i d0 (slot_some hd0)
    refine ⟨v0, hv0, mu, g, ρ, S, R, (Wp.bd k).mono fun mu1 g1 H1 d e1 S1 h1 v r => ?_⟩
    obtain ⟨z, hz, k2⟩ := Wp.optI (Wp.rdI (Wp.rdI h1))
    exact ⟨mu1, g1, d0, d, z, S1, r0.ext e1, r, hz, fun mu2 H2 e2 S2 v2 r2 => Wp.here S2 (k2 mu2 H2 e2 S2) _ (((R.ext e1).ext e2).set i r2)⟩
theorem ss_par2 {i j : Nat} {y : Str} {px py pt : Pos} {kt k2 : Nat} {pt2 : Pos} (hc : X.calm = true) (hN : X.N.Nodup) (hi : X.N[i]? = some x) (hj : X.N[j]? = some y) (hij : i ≠ j)
    (hx : X.env.scope.names.lookup x = some .local) (hy : X.env.scope.names.lookup y = some .local) (ha : PA X [a, b] (tA X.K W Fs))
    (hw : swappedStores [.Tuple [.Name x px, .Name y py] kt pt] (.Tuple [a, b] k2 pt2) X.env = pure (some [x, y]))
    (hs : swapsWithSole [.Tuple [.Name x px, .Name y py] kt pt] (.Tuple [a, b] k2 pt2) pos.line X.env = pure false) :
    PS X (.Assign [.Tuple [.Name x px, .Name y py] kt pt] (.Tuple [a, b] k2 pt2) pos) (tS X.K W fun ρ => liftS ρ (Fs ρ) fun ds => match parSet [i, j] ds ρ with
      | some ρ' => pure (.nx, ρ')
      | none => M.bad) :=
  ps_mono (ps_par hc hN hi hj hij hx hy ha hw hs) fun D' σ H ⟨mu, g, ρ, S, R, h⟩ => ⟨mu, g, ρ, S, R, (Wp.lift R h).mono fun mu1 g1 H1 ds e1 S1 h1 vs rs => by
    cases rs with
    | nil => exact h1.elim
    | cons r rs =>
      cases rs with
      | nil => exact h1.elim
      | cons r2 rs =>
        cases rs with
        | nil => exact ⟨_, _, rfl, Wp.here S1 h1 _ (((R.ext e1).set i r).set j r2)⟩
        | cons _ _ => exact h1.elim⟩
theorem ss_par3 {i j l : Nat} {y z : Str} {px py pz pt : Pos} {kt k2 : Nat} {pt2 : Pos} (hc : X.calm = true) (hN : X.N.Nodup) (hi : X.N[i]? = some x) (hj : X.N[j]? = some y) (hl : X.N[l]? = some z) (hij : i ≠ j) (hil : i ≠ l) (hjl : j ≠ l)
    (hx : X.env.scope.names.lookup x = some .local) (hy : X.env.scope.names.lookup y = some .local) (hz : X.env.scope.names.lookup z = some .local) (ha : PA X [a, b, c] (tA X.K W Fs))
    (hw : swappedStores [.Tuple [.Name x px, .Name y py, .Name z pz] kt pt] (.Tuple [a, b, c] k2 pt2) X.env = pure (some [x, y, z]))
    (hs : swapsWithSole [.Tuple [.Name x px, .Name y py, .Name z pz] kt pt] (.Tuple [a, b, c] k2 pt2) pos.line X.env = pure false) :
    PS X (.Assign [.Tuple [.Name x px, .Name y py, .Name z pz] kt pt] (.Tuple [a, b, c] k2 pt2) pos) (tS X.K W fun ρ => liftS ρ (Fs ρ) fun ds => match parSet [i, j, l] ds ρ with
      | some ρ' => pure (.nx, ρ')
      | none => M.bad) :=
  ps_mono (ps_par3 hc hN hi hj hl hij hil hjl hx hy hz ha hw hs) fun D' σ H ⟨mu, g, ρ, S, R, h⟩ => ⟨mu, g, ρ, S, R, (Wp.lift R h).mono fun mu1 g1 H1 ds e1 S1 h1 vs rs => by
    cases rs with
    | nil => exact h1.elim
    | cons r rs =>
      cases rs with
      | nil => exact h1.elim
      | cons r2 rs =>
        cases rs with
        | nil => exact h1.elim
        | cons r3 rs =>
          cases rs with
          | nil => exact ⟨_, _, _, rfl, Wp.here S1 h1 _ ((((R.ext e1).set i r).set j r2).set l r3)⟩
          | cons _ _ => exact h1.elim⟩
/-- the statements' rows -/
theorem sss_nil : PSs X [] (tS X.K W fun ρ => pure (.nx, ρ)) := pss_mono pss_nil fun D' σ H ⟨mu, g, ρ, S, R, h⟩ => Wp.here S h σ R
theorem Wp.seq {K : PySem.W.Frag} {D' : Ends} {mu : List Addr} {g : G} {H : Hp} {r : R (Fl × Env')} {k : Env' → M (Fl × Env')} (h : Wp K (fun _ _ _ => False) mu g H (seqS r k) (flEnd K W D')) :
    Wp K (fun _ _ _ => False) mu g H r (flEnd K W { D' with nx := tS K W k D' }) := by
  unfold seqS at h
  cases r with
  | bad => exact h.elim
  | ex x g' => exact fun mu' H' dx e' s xr => h mu' H' dx e' s xr
  | ok y g' =>
    intro mu' H' e' s
    obtain ⟨f, ρ⟩ := y
    cases f with
    | nx => exact fun σ R => ⟨mu', g', ρ, s, R, Wp.ext e' h⟩
    | bk => exact h mu' H' e' s
    | ct => exact h mu' H' e' s
    | rt d => exact h mu' H' e' s
    | rs x => exact h mu' H' e' s
theorem sss_cons {s : Stmt} {ss : List Stmt} (h1 : PS X s (tS X.K W F1)) (h2 : PSs X ss (tS X.K W F2)) : PSs X (s :: ss) (tS X.K W fun ρ => fun g => seqS (F1 ρ g) F2) :=
  pss_mono (pss_cons h1 h2) fun D' σ H ⟨mu, g, ρ, S, R, h⟩ => ⟨mu, g, ρ, S, R, Wp.seq h⟩

/-! ### loops -/
/-- the turns -/
theorem loop_ok {K : PySem.W.Frag} {it : It0} {Fb : FS} {J : It} {mu0 : List Addr} {g0 : G} {H0 : Hp} {D' : Ends} (hJ : ItOk K J it mu0 g0 H0) : ∀ (m i : Nat) (σ : L2.St) (H : Hp),
    (∃ mu g ρ, Ext mu0 g0 H0 mu g H ∧ Sim K mu g H ∧ RE K (Own mu g) mu H σ ρ ∧ Wp K (fun _ _ _ => False) mu g H (loopS it (fun d ρ => do
      let ρ1 ← noEx (Ft d ρ)
      Fb ρ1) m i ρ g) (flEnd K W D')) →
    (J.stop i H ∧ D'.nx σ H) ∨ (J.go i H ∧ ∃ m', m = m' + 1 ∧ ∀ x H', J.yld i H x H' → tG K vs Ft x σ H' fun σ2 H2 => tS K W Fb { D' with
      nx := fun σ H => ∃ mu g ρ, Ext mu0 g0 H0 mu g H ∧ Sim K mu g H ∧ RE K (Own mu g) mu H σ ρ ∧ Wp K (fun _ _ _ => False) mu g H (loopS it (fun d ρ => do
        let ρ1 ← noEx (Ft d ρ)
        Fb ρ1) m' (i + 1) ρ g) (flEnd K W D')
      ct := fun σ H => ∃ mu g ρ, Ext mu0 g0 H0 mu g H ∧ Sim K mu g H ∧ RE K (Own mu g) mu H σ ρ ∧ Wp K (fun _ _ _ => False) mu g H (loopS it (fun d ρ => do
        let ρ1 ← noEx (Ft d ρ)
        Fb ρ1) m' (i + 1) ρ g) (flEnd K W D')
      bk := D'.nx } σ2 H2) := by
  intro m i σ H ⟨mu, g, ρ, E, S, R, h⟩
  obtain ⟨hstop, hgo⟩ := hJ mu g H E S i
  cases m with
  | zero =>
    simp only [loopS] at h
    split at h
    · rename_i hn
      exact .inl ⟨hstop hn, Wp.here S h σ R⟩
    · exact h.elim
  | succ m =>
    simp only [loopS] at h
    split at h
    · rename_i hn
      exact .inl ⟨hstop hn, Wp.here S h σ R⟩
    · rename_i d hd
      obtain ⟨q1, q2⟩ := hgo d hd
      refine .inr ⟨q1, m, rfl, fun x H' hy => ?_⟩
      obtain ⟨e1, S1, r⟩ := q2 x H' hy
      refine ⟨mu, g, ρ, d, S1, R.ext e1, r, ?_⟩
      have h1 := Wp.bind (Wp.ext e1 h)
      refine (Wp.noEx (Wp.bd h1)).mono fun mu2 g2 H2 ρ2 e2 S2 h2 σ2 R2 _ => ⟨mu2, g2, ρ2, S2, R2, h2.mono fun mu3 g3 H3 y e3 S3 h3 => ?_⟩
      have E3 := ((E.trans e1).trans e2).trans e3
      obtain ⟨f, ρ3⟩ := y
      cases f with
      | nx => exact fun σ3 R3 => ⟨mu3, g3, ρ3, E3, S3, R3, h3⟩
      | ct => exact fun σ3 R3 => ⟨mu3, g3, ρ3, E3, S3, R3, h3⟩
      | bk => exact fun σ3 R3 => Wp.here S3 h3 σ3 R3
      | rt d => exact Wp.here (X := fun _ _ _ => False) S3 h3
      | rs x => exact Wp.here (X := fun _ _ _ => False) S3 h3
    · exact h.elim
theorem ss_for (hp : PassesOwn (model X.prog X.w) X.A X.env X.xe) (hc : X.calm = true) (hi : PI X tg iter (tIt X.K W Fi)) (hg : PG X tg (tG X.K vs Ft)) (hb : PSs X body (tS X.K W F1)) (hs : ∀ x, foldedSetIterable iter X.env x = pure x) :
    PS X (.For tg iter body [] pos) (tS X.K W fun ρ => liftS ρ (Fi ρ) fun i => fun g => loopS i (fun d ρ => do
      let ρ1 ← noEx (Ft d ρ)
      F1 ρ1) (i.len g) 0 ρ g) :=
  ps_mono (ps_for hp hc hi hg hb hs) fun D' σ H ⟨mu, g, ρ, S, R, h⟩ => ⟨mu, g, ρ, S, R, (Wp.lift R h).mono fun mu1 g1 H1 it e1 S1 h1 J hJ => by
    refine ⟨fun i m σ H => ∃ mu g ρ, Ext mu1 g1 H1 mu g H ∧ Sim X.K mu g H ∧ RE X.K (Own mu g) mu H σ ρ ∧ Wp X.K (fun _ _ _ => False) mu g H (loopS it (fun d ρ => do
      let ρ1 ← noEx (Ft d ρ)
      F1 ρ1) m i ρ g) (flEnd X.K W D'), ⟨it.len g1, mu1, g1, ρ, .refl, S1, R.ext e1, h1⟩, fun i m σ H w => ?_⟩
    rcases loop_ok (vs := vs) hJ m i σ H w with q | ⟨q1, m', rfl, q2⟩
    · exact .inl q
    · exact .inr ⟨q1, _, fun σ' H' n => ⟨m', Nat.lt_succ_self _, n⟩, q2⟩⟩
theorem ss_whl {n : Nat} (hp : PassesOwn (model X.prog X.w) X.A X.env X.xe) (hc : PT X c (tT X.K W Tc)) (hb : PSs X body (tS X.K W F1)) : PS X (.While c body [] pos) (tS X.K W fun ρ => whileS Tc F1 n ρ) :=
  ps_mono (ps_while hp hc hb) fun D' σ H ⟨mu, g, ρ, S, R, h⟩ => by
    refine ⟨fun m σ H => ∃ mu g ρ, Sim X.K mu g H ∧ RE X.K (Own mu g) mu H σ ρ ∧ Wp X.K (fun _ _ _ => False) mu g H (whileS Tc F1 m ρ g) (flEnd X.K W D'), ⟨n, mu, g, ρ, S, R, h⟩, ?_⟩
    intro m σ H ⟨mu, g, ρ, S, R, h⟩
    cases m with
    | zero => exact h.elim
    | succ m =>
      refine ⟨mu, g, ρ, S, R, (Wp.lift R h).mono fun mu1 g1 H1 k e1 S1 h1 => ?_⟩
      cases k with
      | false => exact Wp.here S1 h1 σ (R.ext e1)
      | true =>
        refine ⟨_, fun σ' H' q => ⟨m, Nat.lt_succ_self _, q⟩, mu1, g1, ρ, S1, R.ext e1, ?_⟩
        refine (Wp.bind h1).mono fun mu3 g3 H3 y e3 S3 h3 => ?_
        obtain ⟨f, ρ3⟩ := y
        cases f with
        | nx => exact fun σ3 R3 => ⟨mu3, g3, ρ3, S3, R3, h3⟩
        | ct => exact fun σ3 R3 => ⟨mu3, g3, ρ3, S3, R3, h3⟩
        | bk => exact fun σ3 R3 => Wp.here S3 h3 σ3 R3
        | rt d => exact Wp.here (X := fun _ _ _ => False) S3 h3
        | rs x => exact Wp.here (X := fun _ _ _ => False) S3 h3
end
end DL

set_option Elab.async false
set_option linter.all false
set_option maxRecDepth 100000
set_option maxHeartbeats 4000000
/-! the deep layer: list comprehensions, things let go -/
namespace DL
open PySem PySem.Spec PyProof.Rows L2
variable [Wd]

theorem rbind_assoc {α β γ : Type} (r : R α) (k : α → M β) (l : β → M γ) : (r.bind k).bind l = r.bind fun a g => (k a g).bind l := by
  cases r <;> rfl
section
variable {K : PySem.W.Frag} {Xk : XK} {mu : List Addr} {g : G} {H : Hp}
theorem Wp.bindI {α β : Type} {r : R α} {k : α → M β} {Q : List Addr → G → Hp → β → Prop} (h : Wp K Xk mu g H (r.bind k) Q) : Wp K Xk mu g H r (fun mu' g' H' a => Wp K Xk mu' g' H' (k a g') Q) := Wp.bind (m := fun _ => r) h
/-- the new list told -/
theorem endL_ok {fz : Bool} {n : Nat} {q : Addr} {Q : VK} (S : Sim K mu g H) (hm : mu[n]? = some q) (h : Wp K Xk mu g H (endL fz n g) fun mu' g' H' d => ∀ v, RV K (Own mu' g') mu' H' v d → Q v H') : Q (.ref q) H := by
  unfold endL at h
  cases fz with
  | false => exact Wp.here S h _ (.ref hm)
  | true =>
    simp only at h
    split at h
    · rename_i xs hg
      obtain ⟨vs, hH, r⟩ := S.at_ n _ q hg hm
      have E : Ext mu g H mu (g.set n .gone) H := Ext.gone hg rfl
      exact h _ _ E (S.gone hg rfl hm) _ (.lst (.inl ⟨nown_gone S hm, .inl hH⟩) (r.ext E))
    · exact h.elim
theorem addTo_ok {n : Nat} {q : Addr} {d : D} {v : V} {Q : List Addr → G → Hp → Unit → Prop} (S : Sim K mu g H) (hm : mu[n]? = some q) (r : RV K (Own mu g) mu H v d) (h : Wp K Xk mu g H (addTo n d g) Q) :
    ∃ acc g', H q = some (.lst acc) ∧ acc.length < sizeLine ∧ Ext mu g H mu g' (upd H q (.lst (acc ++ [v]))) ∧ Sim K mu g' (upd H q (.lst (acc ++ [v]))) ∧ Q mu g' (upd H q (.lst (acc ++ [v]))) () := by
  unfold addTo at h
  split at h
  · rename_i xs hg
    split at h
    · rename_i hz
      obtain ⟨vs, hH, rs⟩ := S.at_ n _ q hg hm
      have hl := rs.length
      have rn := rs.append (.cons r .nil)
      have E : Ext mu g H mu (g.set n (.lst (xs ++ [d]))) (upd H q (.lst (vs ++ [v]))) := Ext.set hg rfl hm
      have S' := S.setL hg rfl hm rn
      exact ⟨vs, _, hH, by omega, E, S', h _ _ E S'⟩
    · exact h.elim
  · exact h.elim
end
abbrev WN : WX := fun _ _ _ _ => False
section
variable {X : Cx} {W : WX} {elt tg iter : Expr} {ifs : List Expr} {scope : Scope} {own : List (Str × Nat)} {pos spos py : Pos} {Fe : FE} {Ft : FT} {Fi : Env' → M It0} {Ti : Env' → M Bool} {vs : List Nat} {y : Str} {i0 : Nat}
/-- a comprehension's meaning -/
def lcM (fz : Bool) (own : List Nat) (Fi : Env' → M It0) (Ft : FT) (Ti : Env' → M Bool) (Fe : FE) (ρ : Env') : M D := do
  let i ← Fi ρ
  let n ← newL
  (fun g => loopC i n (fun d => do
    let ρ1 ← Ft d (wipeE ρ own)
    let k ← Ti ρ1
    if k then do
      let y ← Fe ρ1
      pure (some y)
    else pure none) (i.len g) 0 g)
  endL fz n
theorem lc_ok {K : PySem.W.Frag} {fz : Bool} (hvs : ∀ i ∈ vs, i ∈ own.map (·.2)) {σ : L2.St} {H : Hp} {Q : VK} (h : tE K W (lcM fz (own.map (·.2)) Fi Ft Ti Fe) σ H Q) : tLc (tIt K W Fi) (tG K vs Ft) (tT K WN Ti) (tE K WN Fe) (own.map (·.2)) σ H Q := by
  obtain ⟨mu, g, ρ, S, R, h⟩ := h
  refine ⟨mu, g, ρ, S, R, (Wp.bd h).mono fun mu1 g1 H1 it e1 S1 h1 J hJ => ?_⟩
  intro q hq
  generalize hbody : (fun (d : D) => (do
      let ρ1 ← Ft d (wipeE ρ (own.map (·.2)))
      let k ← Ti ρ1
      if k then do
        let y ← Fe ρ1
        pure (some y)
      else pure none : M (Option D))) = body at h1
  have E0 : Ext mu1 g1 H1 (mu1 ++ [q]) (g1 ++ [O.lst []]) (upd H1 q (.lst [])) := Ext.alloc S1.len hq
  have S0 : Sim K (mu1 ++ [q]) (g1 ++ [O.lst []]) (upd H1 q (.lst [])) := S1.alloc hq ⟨[], upd_same, .nil⟩
  have hm0 : (mu1 ++ [q])[g1.length]? = some q := by rw [← S1.len]; simp
  have h2 : Wp K (fun c d H => W c d σ H) mu1 g1 H1 ((loopC it g1.length body (it.len (g1 ++ [O.lst []])) 0 (g1 ++ [O.lst []])).bind fun _ => endL fz g1.length) (fun mu' g' H' d => ∀ v, RV K (Own mu' g') mu' H' v d → Q v H') := h1
  refine ⟨fun i m H => ∃ mu g, Ext (mu1 ++ [q]) (g1 ++ [O.lst []]) (upd H1 q (.lst [])) mu g H ∧ Sim K mu g H ∧ Wp K (fun c d H => W c d σ H) mu g H ((loopC it g1.length body m i g).bind fun _ => endL fz g1.length) (fun mu' g' H' d => ∀ v, RV K (Own mu' g') mu' H' v d → Q v H'),
    ⟨_, _, _, .refl, S0, Wp.ext E0 h2⟩, ?_⟩
  intro i m H2 ⟨mu2, g2, E2, S2, k⟩
  have hm2 := pre_get E2.pre hm0
  obtain ⟨hstop, hgo⟩ := hJ mu2 g2 H2 (E0.trans E2) S2 i
  have RR : RE K (Own mu2 g2) mu2 H2 (L2.wipe σ (own.map (·.2))) (wipeE ρ (own.map (·.2))) := (((R.ext e1).ext E0).ext E2).wipe _
  cases m with
  | zero =>
    simp only [loopC] at k
    split at k
    · rename_i hn
      exact .inl ⟨hstop hn, endL_ok S2 hm2 k⟩
    · exact k.elim
  | succ m =>
    simp only [loopC] at k
    split at k
    · rename_i hn
      exact .inl ⟨hstop hn, endL_ok S2 hm2 k⟩
    · rename_i d hd
      obtain ⟨q1, q2⟩ := hgo d hd
      rw [rbind_assoc] at k
      refine .inr ⟨q1, fun H => ∃ mu g, Ext (mu1 ++ [q]) (g1 ++ [O.lst []]) (upd H1 q (.lst [])) mu g H ∧ Sim K mu g H ∧ Wp K (fun c d H => W c d σ H) mu g H ((loopC it g1.length body m (i + 1) g).bind fun _ => endL fz g1.length) (fun mu' g' H' d => ∀ v, RV K (Own mu' g') mu' H' v d → Q v H'),
        fun H' n => ⟨m, Nat.lt_succ_self _, n⟩, fun x H3 hy => ?_⟩
      obtain ⟨e3, S3, r⟩ := q2 x H3 hy
      refine ⟨mu2, g2, _, d, S3, RR.ext e3, r, ?_⟩
      have k1 : Wp K (fun _ _ _ => False) mu2 g2 H3 (body d g2) _ := Wp.noEx (Wp.bindI (Wp.ext e3 k))
      subst hbody
      refine (Wp.bd k1).mono fun mu4 g4 H4 ρ4 e4 S4 h4 σ4 R4 A4 => ⟨A4.wipe hvs, mu4, g4, ρ4, S4, R4, (Wp.bd h4).mono fun mu5 g5 H5 b e5 S5 h5 => ?_⟩
      have E5 := (E2.trans (e3.trans e4)).trans e5
      cases b with
      | false =>
        exact ⟨mu5, g5, E5, S5, Wp.here S5 h5⟩
      | true =>
        refine ⟨mu5, g5, ρ4, S5, R4.ext e5, (Wp.bd h5).mono fun mu6 g6 H6 y e6 S6 h6 v6 r6 => ?_⟩
        have k2 := Wp.here S6 h6
        simp only at k2
        rw [rbind_assoc] at k2
        have hm6 := pre_get (E5.trans e6).pre hm0
        obtain ⟨acc, g7, a1, a2, E7, S7, k3⟩ := addTo_ok S6 hm6 r6 (Wp.bindI k2)
        exact ⟨acc, a1, a2, mu6, g7, (E5.trans e6).trans E7, S7, k3⟩
    · exact k.elim
theorem s_lc {fz : Bool} (hvs : ∀ i ∈ vs, i ∈ own.map (·.2)) (hc : X.calm = true) (hN : X.N.Nodup) (hi : PI X tg iter (tIt X.K W Fi)) (ok : BlkOk X.N X.env.scope scope own)
    (hg : ∀ (s : Shared) (H : Hp) (C : Addr) (cl : List (Str × Addr)) (fp : List Addr), PG (X.blk s H scope (compEnvC scope cl C X.env) fp) tg (tG X.K vs Ft)) (ht : ∀ (s : Shared) (H : Hp) (C : Addr) (cl : List (Str × Addr)) (fp : List Addr), PTs (X.blk s H scope (compEnvC scope cl C X.env) fp) ifs (tT X.K WN Ti))
    (he : ∀ (s : Shared) (H : Hp) (C : Addr) (cl : List (Str × Addr)) (fp : List Addr), PE (X.blk s H scope (compEnvC scope cl C X.env) fp) elt (tE X.K WN Fe)) (hs : ∀ x, foldedSetIterable iter X.env x = pure x) :
    PE X (.ListComp elt [⟨tg, iter, ifs, 0⟩] scope pos) (tE X.K W (lcM fz (own.map (·.2)) Fi Ft Ti Fe)) :=
  pe_mono (pe_lc hc hN hi ok hg ht he hs) fun σ H Q h => lc_ok hvs h
theorem ss_lc {fz : Bool} (hvs : ∀ i ∈ vs, i ∈ own.map (·.2)) (hc : X.calm = true) (hN : X.N.Nodup) (hy : X.N[i0]? = some y) (hyl : X.env.scope.names.lookup y = some .local)
    (hsw : swapsWith (.ListComp elt [⟨tg, iter, ifs, 0⟩] scope pos) (some (.Name y py)) spos.line X.env = pure true) (hi : PI X tg iter (tIt X.K W Fi)) (ok : BlkOk X.N X.env.scope scope own)
    (hg : ∀ (s : Shared) (H : Hp) (C : Addr) (cl : List (Str × Addr)) (fp : List Addr), PG (X.blk s H scope (compEnvC scope cl C X.env) fp) tg (tG X.K vs Ft)) (ht : ∀ (s : Shared) (H : Hp) (C : Addr) (cl : List (Str × Addr)) (fp : List Addr), PTs (X.blk s H scope (compEnvC scope cl C X.env) fp) ifs (tT X.K WN Ti))
    (he : ∀ (s : Shared) (H : Hp) (C : Addr) (cl : List (Str × Addr)) (fp : List Addr), PE (X.blk s H scope (compEnvC scope cl C X.env) fp) elt (tE X.K WN Fe)) (hs : ∀ x, foldedSetIterable iter X.env x = pure x) :
    PS X (.Assign [.Name y py] (.ListComp elt [⟨tg, iter, ifs, 0⟩] scope pos) spos) (tS X.K W fun ρ => liftS ρ (lcM fz (own.map (·.2)) Fi Ft Ti Fe ρ) fun d => do
      let ρ' ← noEx (pure (ρ.set i0 (some d)) : M Env')
      pure (.nx, ρ')) :=
  ps_mono (ps_setLc hc hN hy hyl hsw hi ok hg ht he hs) fun D' σ H ⟨mu, g, ρ, S, R, h⟩ => lc_ok hvs ⟨mu, g, ρ, S, R, (Wp.lift R h).mono fun mu1 g1 H1 d e1 S1 h1 v r => Wp.here S1 h1 _ ((R.ext e1).set i0 r)⟩
end

/-! ### a thing let go -/
section
variable {X : Cx} {W : WX} {ss : List Stmt} {F : FS}
theorem RE.keep {K : PySem.W.Frag} {own : Addr → Prop} {mu : List Addr} {H : Hp} {σ : L2.St} {ρ : Env'} (R : RE K own mu H σ ρ) {i : Nat} {v : V} {d : D} (hv : σ[i]? = some (some v)) (r : RV K own mu H v d) : RE K own mu H σ (ρ.set i (some d)) := by
  have h := R.set i r
  have e : σ.set i (some v) = σ := by
    refine List.ext_getElem? fun j => ?_
    by_cases hj : i = j
    · subst hj
      have hi : i < σ.length := (List.getElem?_eq_some_iff.mp hv).1
      rw [List.getElem?_set_self hi, hv]
    · rw [List.getElem?_set_ne hj]
  rwa [e] at h
theorem sss_frz {i : Nat} (h2 : PSs X ss (tS X.K W F)) : PSs X ss (tS X.K W fun ρ => fun g => seqS (liftS ρ (do
      let d ← optM (slot ρ i)
      frzM d) (fun d' => pure (.nx, ρ.set i (some d'))) g) F) := by
  refine ⟨fun pins s σ H D' I ⟨mu, g, ρ, S, R, h⟩ => ?_⟩
  have h1 := Wp.lift R (Wp.seq h)
  obtain ⟨d, hd, k⟩ := Wp.optB h1
  obtain ⟨v, hv, r⟩ := R.at_ i d (slot_some hd)
  unfold frzM at k
  split at k
  · rename_i n
    obtain ⟨q, rfl, hm⟩ := r.ref_inv
    split at k
    · rename_i xs hg
      obtain ⟨vs, hH, rs⟩ := S.at_ n _ q hg hm
      have E : Ext mu g H mu (g.set n .gone) H := Ext.gone hg rfl
      have S' := S.gone hg rfl hm
      have k2 := Wp.here S' (k _ _ E S')
      exact h2.run pins s σ H D' I (k2 σ ((R.ext E).keep hv (.lst (.inl ⟨nown_gone S hm, .inl hH⟩) (rs.ext E))))
    · rename_i ks ws hg
      obtain ⟨u, kv, vv, hH, cc, r1, r2⟩ := S.at_ n _ q hg hm
      obtain ⟨od, I'⟩ := I.lock hH (by cases cc <;> exact True.intro)
      have E : Ext mu g H mu (g.set n .gone) (upd H q (.frz od u)) := Ext.set hg rfl hm
      have S' : Sim X.K mu (g.set n .gone) (upd H q (.frz od u)) := S.set hg rfl hm ⟨_, upd_same⟩
      have k2 := Wp.here S' (k _ _ E S')
      exact h2.run pins s σ _ D' I' (k2 σ ((R.ext E).keep hv (.dct (nown_gone S hm) upd_same cc (r1.ext E) (r2.ext E))))
    · rename_i C ns ws hg
      obtain ⟨dx, fs, hH, rfl, rs⟩ := S.at_ n _ q hg hm
      have E : Ext mu g H mu (g.set n .gone) H := Ext.gone hg rfl
      have S' := S.gone hg rfl hm
      have k2 := Wp.here S' (k _ _ E S')
      exact h2.run pins s σ H D' I (k2 σ ((R.ext E).keep hv (.obj (nown_gone S hm) hH (rs.ext E))))
    · exact k.elim
  · exact k.elim
end
end DL

set_option Elab.async false
set_option linter.all false
set_option maxRecDepth 100000
set_option maxHeartbeats 4000000
/-! the deep layer: what a body may lean on; calls -/
namespace DL
open PySem PySem.Spec PyProof.Rows L2
variable [Wd]

/-- the promise of a def by what it computes -/
def spD (K : PySem.W.Frag) (n : Nat) (m : List D → M D) : Sp := fun vs H Q E => vs.length = n ∧ ∃ mu g ds, Sim K mu g H ∧ RVs K (Own mu g) mu H vs ds ∧ Wp K E mu g H (m ds g) fun mu' g' H' d => ∀ v, RV K (Own mu' g') mu' H' v d → Q v H'
def clV (K : PySem.W.Frag) (c : Str) : Value := if c = "ValueError" then .type "ValueError" else .ref (He.ga K c)
def clVV (K : PySem.W.Frag) (c : Str) : V := if c = "ValueError" then .ty "ValueError" else .ref (He.ga K c)
theorem cl_rel {K : PySem.W.Frag} {c : Str} {u : Value} (r : RelV (clVV K c) u) : u = clV K c := by
  unfold clVV at r
  unfold clV
  split at r
  · rename_i h; rw [if_pos h]; exact r
  · rename_i h; rw [if_neg h]; exact r
/-- of instances: what isinstance asks -/
structure InsC (K : PySem.W.Frag) (C : Addr) : Prop where
  ha : PySem.W.findIn K (.ref C) "__class__" = some (some (.builtin "object.__class__"))
  hn : PySem.W.specialIn K (.builtin "object.__class__") "__get__" = some (some (.builtin "getset_descriptor.__get__"))
  ht : PySem.W.takesIn K (.builtin "object.__class__") = some true
  hm : PySem.W.mroIn K C (.type "object") = some true
/-- an exception's class: its fields, or no own __init__ -/
def ExcK (K : PySem.W.Frag) (C : Addr) : List Str → Prop
  | [] => PySem.W.excIn K C He.veBase "ValueError.__new__" = true ∧ PySem.W.keepIn K (.ref C) = true ∧ PySem.W.subIn K (.ref C) (.type "BaseException") = some true ∧ PySem.W.typeIn K (.ref C) = some (.type "type")
  | _ => False
/-- a def at fa, called with n values: what it computes -/
structure Cal (P : Program) (w : World) (K : PySem.W.Frag) (mg : Str → Option Value) (base : Heap) (k : Nat) (fa : Addr) (n : Nat) (m : List D → M D) : Prop where
  ex : ∃ (fd : FuncData) (ps : List Str) (ds : List Value) (dvs : List V) (dd : List D) (m' : List D → M D), FnOk P w K mg base (L2.CX P w) k fa fd ps (spD K (n + dd.length) m') ∧ Binds K fd ps ds ∧ Vals dvs ds ∧
    (∀ own mu H, RVs K own mu H dvs dd) ∧ ∀ xs, xs.length = n → m xs = m' (xs ++ dd)
  kp : PySem.W.keepIn K (.ref fa) = true
structure BaseOk (cf : Cf) (P : Program) (w : World) (K : PySem.W.Frag) (mg : Str → Option Value) (base : Heap) (A : Around) (calm : Bool) : Prop where
  call : calm = true → ∀ f n, cf.ok f n = true → ∃ k, Room k A ∧ mg f = some (.ref (He.ga K f)) ∧ Cal P w K mg base k (He.ga K f) n (cf.call f)
  meth : calm = true → ∀ C m key n, cf.meth C m = some key → cf.okm key n = true → Cls K (He.ga K C) ∧ Meth K (He.ga K C) m (He.ma K (He.ga K C) m) ∧ ∃ k, Room k A ∧ Cal P w K mg base k (He.ma K (He.ga K C) m) n (cf.call key)
  init : calm = true → ∀ C key n, cf.init C = some key → cf.okm key n = true → mg C = some (.ref (He.ga K C)) ∧ Mk K (He.ga K C) (He.ma K (He.ga K C) "__init__") ∧ ∃ k, Room (k + 1) A ∧ Cal P w K mg base k (He.ma K (He.ga K C) "__init__") n (cf.call key)
  glob : ∀ x d, cf.glob x = some d → ∃ u v, mg x = some u ∧ RelV v u ∧ ∀ own mu H, RV K own mu H v d
  kd : ∀ n z d, cf.kd n z = some d → ∃ v, KDct K w (He.ga K n) z v ∧ ∀ own mu H, RV K own mu H v d
  kt : ∀ n l, cf.kt n = some l → ∃ lv, KTab K w (He.ga K n) lv ∧ ∀ z, (∃ d v, l.lookup z = some d ∧ lv.lookup z = some v ∧ ∀ own mu H, RV K own mu H v d) ∨ (l.lookup z = none ∧ lv.lookup z = none)
  fld : ∀ C f, cf.fld C f = true → Cls K (He.ga K C) ∧ NoAttr K (He.ga K C) f
  isi : ∀ C c b, cf.isi C c = some b → PySem.W.kitOne K (.ref (He.ga K C)) (clV K c) = some b ∧ Cls K (He.ga K C) ∧ InsC K (He.ga K C)
  isx : ∀ C c b, cf.isx C c = some b → PySem.W.kitOne K (.ref (He.ga K C)) (clV K c) = some b ∧ ExcC K (He.ga K C)
  exm : ∀ C c b, cf.exm C c = some b → mg c = some (.ref (He.ga K c)) ∧ PySem.W.exmOne K (.ref (He.ga K C)) (.ref (He.ga K c)) = some b
  exk : ∀ C fs, cf.exk C = some fs → mg C = some (.ref (He.ga K C)) ∧ ExcK K (He.ga K C) fs
/-- what the checker sees of a body -/
structure SC where
  sc : Scope
  N : List Str
  fn : Str → Bool
  ok : Str → Nat → Bool
  free : List Str
  cls : List Str
  mks : List Str
  exs : List (Str × List Str)
  calm : Bool
  tr : Bool
def SC.blk (S : SC) (scope : Scope) : SC := { S with sc := relS scope S.sc, fn := fun x => scope.names.lookup x == some .cell, tr := false }
structure CtxOk (cf : Cf) (S : SC) (X : Cx) (W : WX) : Prop where
  b : BaseOk cf X.prog X.w X.K X.mg X.base X.A S.calm
  wd : X.w = Wd.w
  hu : X.A.units + 64 < cLine
  calm : S.calm = true → X.calm = true
  nd : X.N.Nodup
  tk : Takes X W
  po : PassesOwn (model X.prog X.w) X.A X.env X.xe
  sc : X.env.scope = S.sc
  kind : X.env.scope.kind = .function
  N : X.N = S.N
  fn : ∀ x, S.fn x = true → X.fn x = true
  ar : ∀ f n, S.ok f n = true → cf.ok f n = true
  free : ∀ x, x ∈ S.free → X.mg x = none
  cls : ∀ x, x ∈ S.cls → X.mg x = some (.ref (He.ga X.K x))
  mks : ∀ x, x ∈ S.mks → cf.init x ≠ none ∧ X.mg x = some (.ref (He.ga X.K x)) ∧ PySem.W.keepIn X.K (.ref (He.ga X.K x)) = true
  exs : ∀ x fs, S.exs.lookup x = some fs → cf.exk x = some fs
  tr : S.tr = true → X.stack = X.env :: X.outer ∧ X.env.frame = some X.env.locals
theorem takes0 {X : Cx} : Takes X WN := fun _ _ x => by
  obtain ⟨_, _, _, _, _, _, _, _, _, _, _, _, _, _, _, _, z⟩ := x
  exact z.elim
section
variable {cf : Cf} {S : SC} {X : Cx} {W : WX}
theorem CtxOk.wn (c : CtxOk cf S X W) : CtxOk cf S X WN := ⟨c.b, c.wd, c.hu, c.calm, c.nd, takes0, c.po, c.sc, c.kind, c.N, c.fn, c.ar, c.free, c.cls, c.mks, c.exs, c.tr⟩
theorem CtxOk.blk (c : CtxOk cf S X W) {scope : Scope} (hk : scope.kind = .function) (s : Shared) (H : Hp) (C : Addr) (cl : List (Str × Addr)) (fp : List Addr) : CtxOk cf (S.blk scope) (X.blk s H scope (compEnvC scope cl C X.env) fp) WN where
  b := c.b
  wd := c.wd
  hu := c.hu
  calm := c.calm
  nd := c.nd
  tk := takes0
  po := PassesOwn.never
  sc := by
    show relS scope X.env.scope = relS scope S.sc
    rw [c.sc]
  kind := hk
  N := c.N
  fn := fun x h => h
  ar := c.ar
  free := c.free
  cls := c.cls
  mks := c.mks
  exs := c.exs
  tr := fun z => nomatch z
/-- in an except suite -/
def SC.suite (S : SC) : SC := { S with calm := false, tr := false }
theorem BaseOk.quiet {cf : Cf} {P : Program} {w : World} {K : PySem.W.Frag} {mg : Str → Option Value} {base : Heap} {A A' : Around} {k : Bool} (b : BaseOk cf P w K mg base A k) : BaseOk cf P w K mg base A' false :=
  ⟨(fun z => nomatch z), (fun z => nomatch z), (fun z => nomatch z), b.glob, b.kd, b.kt, b.fld, b.isi, b.isx, b.exm, b.exk⟩
theorem CtxOk.suite (c : CtxOk cf S X W) (a : Addr) (pn : List (Addr × Obj)) : CtxOk cf S.suite (X.suite a pn) WN where
  b := c.b.quiet
  wd := c.wd
  hu := c.hu
  calm := fun z => nomatch z
  nd := c.nd
  tk := takes0
  po := PassesOwn.never
  sc := c.sc
  kind := c.kind
  N := c.N
  fn := c.fn
  ar := c.ar
  free := c.free
  cls := c.cls
  mks := c.mks
  exs := c.exs
  tr := fun z => nomatch z
theorem CtxOk.try_ (c : CtxOk cf S X W) {Wb : WX} {pn : List (Addr × Obj)} {xe : Value → Shared → Prop} (tk : Takes (X.tr pn xe) Wb) (po : PassesOwn (model X.prog X.w) X.A X.env xe) : CtxOk cf S (X.tr pn xe) Wb where
  b := c.b
  wd := c.wd
  hu := c.hu
  calm := c.calm
  nd := c.nd
  tk := tk
  po := po
  sc := c.sc
  kind := c.kind
  N := c.N
  fn := c.fn
  ar := c.ar
  free := c.free
  cls := c.cls
  mks := c.mks
  exs := c.exs
  tr := c.tr
end

section
variable {cf : Cf} {S : SC} {X : Cx} {W : WX} {e : Expr} {es : List Expr} {x : Str} {p pos : Pos} {Fs : Env' → M (List D)} {k n : Nat} {m : List D → M D}
/-- the callee runs -/
theorem run_cal {pins : List (Addr × Obj)} {s : Shared} {σ : L2.St} {H : Hp} {QV : VK} {fa : Addr} {us : List Value} {vs : List V} (c : Cal X.prog X.w X.K X.mg X.base k fa n m) (hr : Room k X.A) (tk : Takes X W) (I : Inv X pins σ H s) (r : Vals vs us)
    {mu : List Addr} {g : G} {ds : List D} (S : Sim X.K mu g H) (rs : RVs X.K (Own mu g) mu H vs ds) (hl : ds.length = n)
    (h : Wp X.K (fun c d H => W c d σ H) mu g H (m ds g) fun mu' g' H' d => ∀ v, RV X.K (Own mu' g') mu' H' v d → QV v H') : wpAny (model X.prog X.w) X.A (call (.ref fa) us) (EP X pins σ QV) X.xe s := by
  obtain ⟨fd, ps, ds', dvs, dd, m', F, hb, hd, rd', hm⟩ := c.ex
  refine run_fnSD F hr hb hd (passAt tk σ) I r ⟨?_, mu, g, ds ++ dd, S, rs.append (rd' _ _ _), ?_⟩
  · rw [List.length_append, rs.length, (rd' (Own mu g) mu H).length, hl]
  · rw [← hm ds hl]
    exact h
/-- f(e, ..) -/
theorem s_call {Fs : Env' → M (List D)} (c : Cal X.prog X.w X.K X.mg X.base k (He.ga X.K x) n m) (hmg : X.mg x = some (.ref (He.ga X.K x))) (hr : Room k X.A) (tk : Takes X W) (hl : ∀ ρ g ds g', Fs ρ g = .ok ds g' → ds.length = n) (hg : Gl X x) (ha : PA X (e :: es) (tA X.K W Fs)) (hdb : (x == ("__debug__" : Str)) = false)
    (he : starEach (e :: es) X.env = (false, eval e X.env) :: starEach es X.env) (hpl : (backTo pos (starEach es X.env)).any (·.1) = false) : PE X (.Call (.Name x p) (e :: es) [] pos) (tE X.K W fun ρ => do
    let ds ← Fs ρ
    m ds) := by
  refine ⟨fun pins s σ H Q I ⟨mu, g, ρ, S, R, h⟩ => ?_⟩
  refine wpAny_Call_Name_kw (ld_glob I hg hmg ?_ hdb)
  have h1 := Wp.bd h
  have q : tA X.K W Fs σ H fun vs H2 => ∃ mu g ds, ds.length = n ∧ Sim X.K mu g H2 ∧ RVs X.K (Own mu g) mu H2 vs ds ∧ Wp X.K (fun c d H => W c d σ H) mu g H2 (m ds g) fun mu' g' H' d => ∀ v, RV X.K (Own mu' g') mu' H' v d → Q v H' := ⟨mu, g, ρ, S, R, by
    cases e0 : Fs ρ g with
    | bad => rw [e0] at h1; exact h1.elim
    | ex x g1 => rw [e0] at h1; exact h1
    | ok ds g1 =>
      rw [e0] at h1
      exact fun mu1 H1 e1 S1 vs rs => ⟨mu1, g1, ds, hl ρ g ds g1 e0, S1, rs, h1 mu1 H1 e1 S1⟩⟩
  refine PySem.W.callWith_K (h₀ := X.base) I.ok.mod.kin c.kp (thn (ha.run pos pins s σ H _ I q) fun us s2 ⟨vs, H2, I2, r, mu2, g2, ds, hl2, S2, rs, q⟩ => ⟨I2.kIn, ?_⟩) he hpl
  exact run_cal c hr tk I2 r S2 rs hl2 q
/-- f() -/
theorem s_call0 (c : Cal X.prog X.w X.K X.mg X.base k (He.ga X.K x) 0 m) (hmg : X.mg x = some (.ref (He.ga X.K x))) (hr : Room k X.A) (tk : Takes X W) (hg : Gl X x) (hdb : (x == ("__debug__" : Str)) = false) : PE X (.Call (.Name x p) [] [] pos) (tE X.K W fun ρ => do
    let ds ← (pure [] : M (List D))
    m ds) := by
  refine ⟨fun pins s σ H Q I ⟨mu, g, ρ, S, R, h⟩ => ?_⟩
  refine wpAny_Call_Name_kw (ld_glob I hg hmg ?_ hdb)
  exact PySem.W.callWith_K0 I.kIn c.kp (run_cal (us := []) c hr tk I .nil S .nil rfl h)
/-- v(e, ..), v a name that holds a def -/
theorem s_callv {i : Nat} {call : Str → List D → M D} {ok : Str → Nat → Bool} (c : ∀ f n, ok f n = true → ∃ k, Room k X.A ∧ X.mg f = some (.ref (He.ga X.K f)) ∧ Cal X.prog X.w X.K X.mg X.base k (He.ga X.K f) n (call f)) (tk : Takes X W) (hl : ∀ ρ g ds g', Fs ρ g = .ok ds g' → ds.length = n) (hN : X.N[i]? = some x) (hv : Vis X.env.scope x) (ha : PA X (e :: es) (tA X.K W Fs)) (hdb : (x == ("__debug__" : Str)) = false) (hcd : (x == ("__classdict__" : Str)) = false)
    (he : starEach (e :: es) X.env = (false, eval e X.env) :: starEach es X.env) (hpl : (backTo pos (starEach es X.env)).any (·.1) = false) : PE X (.Call (.Name x p) (e :: es) [] pos) (tE X.K W fun ρ => do
    let f ← optM (slot ρ i)
    match f with
    | .fn x => do
      needM (ok x n = true)
      let ds ← Fs ρ
      call x ds
    | _ => M.bad) := by
  refine ⟨fun pins s σ H Q I ⟨mu, g, ρ, S, R, h⟩ => ?_⟩
  obtain ⟨d, hd, h1⟩ := Wp.optB h
  obtain ⟨v, hv0, r⟩ := R.at_ i d (slot_some hd)
  cases d with
  | fn f =>
    cases r
    obtain ⟨hf, h2⟩ := Wp.needI h1
    obtain ⟨k, hr, _, cc⟩ := c f n hf
    refine wpAny_Call_Name_kw (thn ((pe_var (pos := p) hN hv hdb hcd).run pins s σ H (fun v H1 => v = .ref (He.ga X.K f) ∧ H1 = H) I ⟨_, hv0, rfl, rfl⟩) fun u s1 ⟨v, H1, I1, r1, q1⟩ => ?_)
    obtain ⟨rfl, rfl⟩ := q1
    cases r1
    have h3 := Wp.bd h2
    have q : tA X.K W Fs σ H1 fun vs H2 => ∃ mu g ds, ds.length = n ∧ Sim X.K mu g H2 ∧ RVs X.K (Own mu g) mu H2 vs ds ∧ Wp X.K (fun c d H => W c d σ H) mu g H2 (call f ds g) fun mu' g' H' d => ∀ v, RV X.K (Own mu' g') mu' H' v d → Q v H' := ⟨mu, g, ρ, S, R, by
      cases e0 : Fs ρ g with
      | bad => rw [e0] at h3; exact h3.elim
      | ex x g1 => rw [e0] at h3; exact h3
      | ok ds g1 =>
        rw [e0] at h3
        exact fun mu1 H1 e1 S1 vs rs => ⟨mu1, g1, ds, hl ρ g ds g1 e0, S1, rs, h3 mu1 H1 e1 S1⟩⟩
    refine PySem.W.callWith_K (h₀ := X.base) I.ok.mod.kin cc.kp (thn (ha.run pos pins s1 σ H1 _ I1 q) fun us s2 ⟨vs, H2, I2, r, mu2, g2, ds, hl2, S2, rs, q⟩ => ⟨I2.kIn, ?_⟩) he hpl
    exact run_cal cc hr tk I2 r S2 rs hl2 q
  | _ => exact h1.elim
end

/-! ### defs -/
/-- the end of a body -/
def runB (r : R (Fl × Env')) : R D := match r with
  | .ok (.rt d, _) g => .ok d g
  | .ok (.nx, _) g => .ok .non g
  | .ok (.rs e, _) g => .ex e g
  | _ => .bad
def start0 (nn : Nat) (ds : List D) : Env' := ds.map some ++ List.replicate (nn - ds.length) none
theorem start_ok {K : PySem.W.Frag} {own : Addr → Prop} {mu : List Addr} {H : Hp} {N : List Str} {vs : List V} {ds : List D} (r : RVs K own mu H vs ds) : RE K own mu H (L2.start N vs) (start0 N.length ds) := by
  have hl := r.length
  refine ⟨?_, fun i d h => ?_⟩
  · unfold L2.start start0
    simp [hl]
  · unfold start0 at h
    unfold L2.start
    by_cases hi : i < ds.length
    · rw [List.getElem?_append_left (by simpa using hi), List.getElem?_map] at h
      rw [List.getElem?_append_left (by simpa [hl] using hi), List.getElem?_map]
      cases e : ds[i]? with
      | none => rw [e] at h; cases h
      | some d' =>
        rw [e] at h
        cases h
        obtain ⟨v, h1, h2⟩ := r.get e
        exact ⟨v, by rw [h1]; rfl, h2⟩
    · rw [List.getElem?_append_right (by simpa using hi)] at h
      rw [List.getElem?_replicate] at h
      split at h <;> cases h
theorem runB_ok {K : PySem.W.Frag} {E : XK} {Q : VK} {mu : List Addr} {g : G} {H : Hp} {r : R (Fl × Env')} (h : Wp K E mu g H (runB r) fun mu' g' H' d => ∀ v, RV K (Own mu' g') mu' H' v d → Q v H') :
    Wp K (fun _ _ _ => False) mu g H r (flEnd K (fun c d _ H => E c d H) { nx := fun _ H' => Q .non H', rt := Q }) := by
  unfold runB at h
  cases r with
  | bad => exact h.elim
  | ex e g' => exact h.elim
  | ok x g' =>
    obtain ⟨f, ρ⟩ := x
    intro mu' H' e' S'
    cases f with
    | nx => exact fun σ R => Wp.here (X := E) S' (Wp.ext e' h) _ .non
    | rt d => exact Wp.here (X := E) S' (Wp.ext e' h)
    | bk => exact h.elim
    | ct => exact h.elim
    | rs x => exact fun σ dx R xr => h mu' H' dx e' S' xr
end DL

set_option Elab.async false
set_option linter.all false
set_option maxRecDepth 100000
set_option maxHeartbeats 4000000
/-! the deep layer: instances, their methods; isinstance of own classes -/
namespace DL
open PySem PySem.Spec PyProof.Rows L2
variable [Wd]

theorem call_meth {prog : Program} {w : World} {A : Around} {E : Value → Shared → Prop} {s : Shared} {env : Env} {o : Expr} {name : Str} {apos pos : Pos} {args : List Expr} {Q : Value → Shared → Prop}
    (hbase : attributeBase o name env (eval o env) = eval o env)
    (hfew : ((backTo pos (starEach args env)).all (fun x => !x.1) && (backToKw pos (keywordEach [] env)).all (fun x => x.1.isSome)
      && decide (args.length + ([] : List Keyword).length + (if ([] : List Keyword).isEmpty then 0 else 1) < 30)) = true)
    (hline : (apos.endLine == pos.line) = true)
    (h : wpAny (model prog w) A (eval o env) (fun ov s₁ => ∀ pl, wpAny (model prog w) A (getMethod ov name pl) (fun fx s₂ => wpAny (model prog w) A (callWith pos fx.1 fx.2 (backTo pos (starEach args env)) (backToKw pos (keywordEach [] env))) Q E s₂) E s₁) E s) :
    wpAny (model prog w) A (eval (.Call (.Attribute o name apos) args [] pos) env) Q E s := by
  rw [arm_eval_Call, hbase]
  refine wpAny_bind (wpAny_mono h (fun ov s₁ h₁ => ?_) fun _ _ e => e)
  refine wpAny_bind (wpAny_standAt ?_)
  have hform : methodCallForm (args.length + ([] : List Keyword).length) (backTo pos (starEach args env)) (backToKw pos (keywordEach [] env)) = true := hfew
  have hpos : methodCallPos true o env apos pos = pure pos := by unfold methodCallPos; simp [hline]
  unfold methodCall
  rw [hform]
  refine wpAny_bind (wpAny_holding (wpAny_mono (h₁ _) (fun fx s₂ h₂ => ?_) fun _ _ x => x))
  exact wpAny_bind (wpAny_of_eq hpos h₂)

section
variable {K : PySem.W.Frag} {mu : List Addr} {g : G} {H : Hp} {v : V} {d : D}
theorem clsO_ok (S : Sim K mu g H) (h : RV K (Own mu g) mu H v d) {C : Str} {ns : List Str} (e : clsO g d = some (C, ns)) : ∃ a dx fs, v = .ref a ∧ H a = some (.ins (He.ga K C) dx fs) ∧ fs.map (·.1) = ns := by
  unfold clsO at e
  split at e
  · cases e
    cases h with
    | obj h1 h2 r => exact ⟨_, _, _, rfl, h2, rfl⟩
  · rename_i n
    obtain ⟨a, rfl, hm⟩ := h.ref_inv
    split at e
    · rename_i hg
      cases e
      obtain ⟨dx, fs, q, hn, _⟩ := S.at_ n _ a hg hm
      exact ⟨a, dx, fs, rfl, q, hn⟩
    · cases e
  · cases e
theorem lookup_none {α : Type} {m : Str} : ∀ {fs : List (Str × α)}, (fs.map (·.1)).contains m = false → fs.lookup m = none
  | [], _ => rfl
  | (x, y) :: fs, h => by
    rw [List.map_cons, List.contains_cons, Bool.or_eq_false_iff] at h
    rw [List.lookup_cons, h.1]
    exact lookup_none h.2
end
section
variable {X : Cx} {W : WX} {e o : Expr} {es : List Expr} {x m : Str} {p pos apos cpos : Pos} {Fo : FE} {Fs : Env' → M (List D)} {n : Nat}
/-- an instance's method, called -/
def ownM (meth : Str → Str → Option Str) (okm : Str → Nat → Bool) (call : Str → List D → M D) (m : Str) (n : Nat) (Fs : Env' → M (List D)) (ρ : Env') (x : D) : M D := fun g => match clsO g x with
  | some (C, ns) => match meth C m with
    | some key => (do
      needM ((!ns.contains m && okm key (n + 1)) = true)
      let ds ← Fs ρ
      call key (x :: ds) : M D) g
    | none => .bad
  | none => .bad
/-- what stands behind the methods -/
def MethOk (X : Cx) (meth : Str → Str → Option Str) (okm : Str → Nat → Bool) (call : Str → List D → M D) : Prop :=
  ∀ C m key n, meth C m = some key → okm key n = true → Cls X.K (He.ga X.K C) ∧ Meth X.K (He.ga X.K C) m (He.ma X.K (He.ga X.K C) m) ∧ ∃ k, Room k X.A ∧ Cal X.prog X.w X.K X.mg X.base k (He.ma X.K (He.ga X.K C) m) n (call key)
variable {meth : Str → Str → Option Str} {okm : Str → Nat → Bool} {call : Str → List D → M D}
theorem s_own (c : MethOk X meth okm call) (tk : Takes X W) (hl : ∀ ρ g ds g', Fs ρ g = .ok ds g' → ds.length = n) (ho : PE X o (tE X.K W Fo)) (ha : PA X (e :: es) (tA X.K W Fs))
    (hbase : attributeBase o m X.env (eval o X.env) = eval o X.env)
    (hfew : ((backTo cpos (starEach (e :: es) X.env)).all (fun x => !x.1) && (backToKw cpos (keywordEach [] X.env)).all (fun x => x.1.isSome)
      && decide ((e :: es).length + ([] : List Keyword).length + (if ([] : List Keyword).isEmpty then 0 else 1) < 30)) = true)
    (hline : (apos.endLine == cpos.line) = true) (hs : starEach (e :: es) X.env = (false, eval e X.env) :: starEach es X.env) (hplain : (backTo cpos (starEach es X.env)).any (·.1) = false) :
    PE X (.Call (.Attribute o m apos) (e :: es) [] cpos) (tE X.K W fun ρ => do
      let x ← Fo ρ
      ownM meth okm call m n Fs ρ x) := by
  refine ⟨fun pins s σ H Q I ⟨mu, g, ρ, S, R, h⟩ => ?_⟩
  have h1 := Wp.bd h
  have q : tE X.K W Fo σ H fun v H1 => ∃ mu1 g1 d, Sim X.K mu1 g1 H1 ∧ RE X.K (Own mu1 g1) mu1 H1 σ ρ ∧ RV X.K (Own mu1 g1) mu1 H1 v d ∧ Wp X.K (fun c d H => W c d σ H) mu1 g1 H1 (ownM meth okm call m n Fs ρ d g1) fun mu' g' H' d => ∀ v, RV X.K (Own mu' g') mu' H' v d → Q v H' :=
    ⟨mu, g, ρ, S, R, h1.mono fun mu1 g1 H1 d e1 S1 h2 v r => ⟨mu1, g1, d, S1, R.ext e1, r, h2⟩⟩
  refine call_meth hbase hfew hline (thn (ho.run pins s σ H _ I q) fun u s1 ⟨v, H1, I1, rx, mu1, g1, d, S1, R1, r1, h2⟩ pl => ?_)
  unfold ownM at h2
  split at h2
  · rename_i C ns hc
    split at h2
    · rename_i key hk
      obtain ⟨hn, h3⟩ := Wp.needI h2
      obtain ⟨hn, hok⟩ := Bool.and_eq_true_iff.mp hn
      obtain ⟨a, dx, fs, rfl, ea, en⟩ := clsO_ok S1 r1 hc
      cases rx
      obtain ⟨cl, mt, k, hr, cc⟩ := c C m key (n + 1) hk hok
      refine getmeth_ok I1 ea cl mt (lookup_none (by rw [en]; simpa using hn)) ?_
      have h4 := Wp.bd h3
      have q2 : tA X.K W Fs σ H1 fun vs H2 => ∃ mu2 g2 ds, ds.length = n ∧ Sim X.K mu2 g2 H2 ∧ RVs X.K (Own mu2 g2) mu2 H2 (.ref a :: vs) (d :: ds) ∧ Wp X.K (fun c d H => W c d σ H) mu2 g2 H2 (call key (d :: ds) g2) fun mu' g' H' d => ∀ v, RV X.K (Own mu' g') mu' H' v d → Q v H' := ⟨mu1, g1, ρ, S1, R1, by
        cases e0 : Fs ρ g1 with
        | bad => rw [e0] at h4; exact h4.elim
        | ex x g2 => rw [e0] at h4; exact h4
        | ok ds g2 =>
          rw [e0] at h4
          exact fun mu2 H2 e2 S2 vs rs => ⟨mu2, g2, ds, hl ρ g1 ds g2 e0, S2, .cons (r1.ext e2) rs, h4 mu2 H2 e2 S2⟩⟩
      refine PySem.W.callWith_K (first := [.ref a]) (h₀ := X.base) I1.ok.mod.kin cc.kp (thn (ha.run cpos pins s1 σ H1 _ I1 q2) fun us s2 ⟨vs, H2, I2, r, mu2, g2, ds, hl2, S2, rs, q3⟩ => ⟨I2.kIn, ?_⟩) hs hplain
      exact run_cal (us := .ref a :: us) (vs := .ref a :: vs) cc hr tk I2 (.cons rfl r) S2 rs (by simp [hl2]) q3
    · exact h2.elim
  · exact h2.elim
theorem s_own0 (c : MethOk X meth okm call) (tk : Takes X W) (ho : PE X o (tE X.K W Fo))
    (hbase : attributeBase o m X.env (eval o X.env) = eval o X.env) (hline : (apos.endLine == cpos.line) = true) :
    PE X (.Call (.Attribute o m apos) [] [] cpos) (tE X.K W fun ρ => do
      let x ← Fo ρ
      ownM meth okm call m 0 (fun _ => (pure [] : M (List D))) ρ x) := by
  refine ⟨fun pins s σ H Q I ⟨mu, g, ρ, S, R, h⟩ => ?_⟩
  have h1 := Wp.bd h
  have q : tE X.K W Fo σ H fun v H1 => ∃ mu1 g1 d, Sim X.K mu1 g1 H1 ∧ RV X.K (Own mu1 g1) mu1 H1 v d ∧ Wp X.K (fun c d H => W c d σ H) mu1 g1 H1 (ownM meth okm call m 0 (fun _ => (pure [] : M (List D))) ρ d g1) fun mu' g' H' d => ∀ v, RV X.K (Own mu' g') mu' H' v d → Q v H' :=
    ⟨mu, g, ρ, S, R, h1.mono fun mu1 g1 H1 d e1 S1 h2 v r => ⟨mu1, g1, d, S1, r, h2⟩⟩
  refine call_meth hbase rfl hline (thn (ho.run pins s σ H _ I q) fun u s1 ⟨v, H1, I1, rx, mu1, g1, d, S1, r1, h2⟩ pl => ?_)
  unfold ownM at h2
  split at h2
  · rename_i C ns hc
    split at h2
    · rename_i key hk
      obtain ⟨hn, h3⟩ := Wp.needI h2
      obtain ⟨hn, hok⟩ := Bool.and_eq_true_iff.mp hn
      obtain ⟨a, dx, fs, rfl, ea, en⟩ := clsO_ok S1 r1 hc
      cases rx
      obtain ⟨cl, mt, k, hr, cc⟩ := c C m key (0 + 1) hk hok
      refine getmeth_ok I1 ea cl mt (lookup_none (by rw [en]; simpa using hn)) ?_
      exact PySem.W.callWith_K0 (first := [.ref a]) I1.kIn cc.kp (run_cal (us := [.ref a]) (vs := [.ref a]) cc hr tk I1 (.cons rfl .nil) S1 (.cons r1 .nil) rfl h3)
    · exact h2.elim
  · exact h2.elim

/-! ### C(e, ..) -/
theorem run_mk {pins : List (Addr × Obj)} {s : Shared} {σ : L2.St} {H : Hp} {QV : VK} {C : Str} {f : Addr} {us : List Value} {vs : List V} {k : Nat} {m : List D → M D} (M : Mk X.K (He.ga X.K C) f) (c : Cal X.prog X.w X.K X.mg X.base k f n m) (hr : Room (k + 1) X.A) (tk : Takes X W) (I : Inv X pins σ H s) (r : Vals vs us)
    {mu : List Addr} {g : G} {ds : List D} (S : Sim X.K mu g H) (rs : RVs X.K (Own mu g) mu H vs ds) (hl : ds.length + 1 = n)
    (h : ∀ mu2 H2 x, Ext mu g H mu2 (g ++ [.ins C [] []]) H2 → Sim X.K mu2 (g ++ [.ins C [] []]) H2 → mu2[g.length]? = some x → Wp X.K (fun c d H => W c d σ H) mu2 (g ++ [.ins C [] []]) H2 (m (.ref g.length :: ds) (g ++ [.ins C [] []])) fun mu' g' H' d => ∀ v, RV X.K (Own mu' g') mu' H' v d → v = .non ∧ QV (.ref x) H') :
    wpAny (model X.prog X.w) X.A (PySem.call (.ref (He.ga X.K C)) us) (EP X pins σ QV) X.xe s := by
  obtain ⟨fd, ps, ds', dvs, dd, m', F, hb, hd, rd', hm⟩ := c.ex
  have n1 : H s.heap.objs.size = none := I.hok.fresh (Nat.le_refl _)
  have n2 : H (s.heap.objs.size + 1) = none := I.hok.fresh (Nat.le_succ _)
  have ne : s.heap.objs.size + 1 ≠ s.heap.objs.size := Nat.succ_ne_self _
  have n3 : (upd H s.heap.objs.size (.own (s.heap.objs.size + 1))) (s.heap.objs.size + 1) = none := by rw [upd_ne ne]; exact n2
  have I2 := Inv.made (C := He.ga X.K C) I
  have S1 : Sim X.K mu g (upd H s.heap.objs.size (.own (s.heap.objs.size + 1))) := S.new n1
  have E2 : Ext mu g H (mu ++ [s.heap.objs.size + 1]) (g ++ [.ins C [] []]) (upd (upd H s.heap.objs.size (.own (s.heap.objs.size + 1))) (s.heap.objs.size + 1) (.ins (He.ga X.K C) s.heap.objs.size [])) := (Ext.new n1).trans (Ext.alloc S1.len n3)
  have S2 : Sim X.K (mu ++ [s.heap.objs.size + 1]) (g ++ [.ins C [] []]) (upd (upd H s.heap.objs.size (.own (s.heap.objs.size + 1))) (s.heap.objs.size + 1) (.ins (He.ga X.K C) s.heap.objs.size [])) := S1.alloc n3 ⟨_, [], upd_same, rfl, .nil⟩
  have hm0 : (mu ++ [s.heap.objs.size + 1])[g.length]? = some (s.heap.objs.size + 1) := by rw [← S.len]; simp
  have r2 : Vals (V.ref (s.heap.objs.size + 1) :: (vs ++ dvs)) (Value.ref (s.heap.objs.size + 1) :: (us ++ ds')) := .cons rfl (r.append hd)
  have hq : spD X.K (n + dd.length) m' (V.ref (s.heap.objs.size + 1) :: (vs ++ dvs)) (upd (upd H s.heap.objs.size (.own (s.heap.objs.size + 1))) (s.heap.objs.size + 1) (.ins (He.ga X.K C) s.heap.objs.size [])) (fun v H2 => v = .non ∧ QV (.ref (s.heap.objs.size + 1)) H2) (fun c d H => W c d σ H) := by
    refine ⟨?_, _, _, .ref g.length :: (ds ++ dd), S2, .cons (.ref hm0) ((rs.ext E2).append (rd' _ _ _)), ?_⟩
    · rw [List.length_cons, List.length_append, rs.length, (rd' (Own mu g) mu H).length, ← hl]; omega
    · have e := hm (.ref g.length :: ds) (by simpa using hl)
      rw [List.cons_append] at e
      rw [← e]
      exact h _ _ _ E2 S2 hm0
  have hlen : (Value.ref (s.heap.objs.size + 1) :: us ++ ds').length = ps.length := by
    have e := r2.length
    rw [F.len _ _ _ _ hq] at e
    exact e.symm
  refine wpAny_call (make_map (f := f) I.kIn M.makes M.init (beq_iff_eq.mp M.fn) (codeAny_mono (F.run _ X.stack _ _ ⟨Value.ref (s.heap.objs.size + 1) :: us, []⟩ (Value.ref (s.heap.objs.size + 1) :: (us ++ ds')) _ _ _ (hr.make _ us [])
    (I2.env0.make _ us []) (hb _ (Value.ref (s.heap.objs.size + 1) :: us) I2.kIn hlen) r2 hq) fun r s' hq' => ?_))
  cases r with
  | error e => exact passAt tk σ pins _ _ e s' I2 hq'
  | ok fl =>
    cases fl with
    | ret u =>
      obtain ⟨v, H', I3, rv, ev, q3⟩ := I2.after hq'
      subst ev
      exact ⟨rv, ⟨V.ref (s.heap.objs.size + 1), H', I3, rfl, q3⟩⟩
    | next => exact False.elim hq'
    | brk => exact False.elim hq'
    | cont => exact False.elim hq'
/-- the new instance told -/
theorem endO_ok {K : PySem.W.Frag} {Xk : XK} {mu : List Addr} {g : G} {H : Hp} {fz : Bool} {n : Nat} {q : Addr} {Q : VK} (S : Sim K mu g H) (hm : mu[n]? = some q) (h : Wp K Xk mu g H (endO fz n g) fun mu' g' H' d => ∀ v, RV K (Own mu' g') mu' H' v d → Q v H') : Q (.ref q) H := by
  unfold endO at h
  split at h
  · rename_i C ns vs hg
    obtain ⟨dx, fs, hH, rfl, r⟩ := S.at_ n _ q hg hm
    cases fz with
    | false => exact Wp.here S h _ (.ref hm)
    | true =>
      have E : Ext mu g H mu (g.set n .gone) H := Ext.gone hg rfl
      exact h _ _ E (S.gone hg rfl hm) _ (.obj (nown_gone S hm) hH (r.ext E))
  · exact h.elim
def mkM (init : Str → Option Str) (okm : Str → Nat → Bool) (call : Str → List D → M D) (fz : Bool) (C : Str) (ds : List D) : M D := match init C with
    | some key => do
      needM (okm key (ds.length + 1) = true)
      let n ← newI C
      let r ← call key (.ref n :: ds)
      match r with
      | .non => endO fz n
      | _ => M.bad
    | none => M.bad
def InitOk (X : Cx) (init : Str → Option Str) (okm : Str → Nat → Bool) (call : Str → List D → M D) : Prop :=
  ∀ C key n, init C = some key → okm key n = true → X.mg C = some (.ref (He.ga X.K C)) ∧ Mk X.K (He.ga X.K C) (He.ma X.K (He.ga X.K C) "__init__") ∧ ∃ k, Room (k + 1) X.A ∧ Cal X.prog X.w X.K X.mg X.base k (He.ma X.K (He.ga X.K C) "__init__") n (call key)
variable {init : Str → Option Str} {fz : Bool}
theorem mk_run {pins : List (Addr × Obj)} {s : Shared} {σ : L2.St} {H : Hp} {Q : VK} {us : List Value} {vs : List V} {mu : List Addr} {g : G} {ds : List D} (c : InitOk X init okm call) (tk : Takes X W) (I : Inv X pins σ H s) (r : Vals vs us) (S : Sim X.K mu g H) (rs : RVs X.K (Own mu g) mu H vs ds)
    (h : Wp X.K (fun c d H => W c d σ H) mu g H (mkM init okm call fz x ds g) fun mu' g' H' d => ∀ v, RV X.K (Own mu' g') mu' H' v d → Q v H') : wpAny (model X.prog X.w) X.A (PySem.call (.ref (He.ga X.K x)) us) (EP X pins σ Q) X.xe s := by
  unfold mkM at h
  cases hk : init x with
  | none => rw [hk] at h; exact h.elim
  | some key =>
    rw [hk] at h
    obtain ⟨hok, h2⟩ := Wp.needI h
    obtain ⟨_, Mc, k, hr, cc⟩ := c x key _ hk hok
    refine run_mk Mc cc hr tk I r S rs rfl fun mu2 H2 q E2 S2 hm => ?_
    have h3 : Wp X.K (fun c d H => W c d σ H) mu2 (g ++ [.ins x [] []]) H2 ((call key (.ref g.length :: ds) (g ++ [.ins x [] []])).bind fun r => (match r with
      | .non => endO fz g.length
      | _ => M.bad : M D)) (fun mu' g' H' d => ∀ v, RV X.K (Own mu' g') mu' H' v d → Q v H') := Wp.ext E2 h2
    refine (Wp.bindI h3).mono fun mu3 g3 H3 d e3 S3 h4 v rv => ?_
    cases d with
    | non =>
      cases rv
      exact ⟨rfl, endO_ok S3 (pre_get e3.pre hm) h4⟩
    | _ => exact h4.elim
theorem s_mk (c : InitOk X init okm call) (hc : init x ≠ none → X.mg x = some (.ref (He.ga X.K x)) ∧ PySem.W.keepIn X.K (.ref (He.ga X.K x)) = true) (tk : Takes X W) (hg : Gl X x) (ha : PA X (e :: es) (tA X.K W Fs)) (hdb : (x == ("__debug__" : Str)) = false)
    (he : starEach (e :: es) X.env = (false, eval e X.env) :: starEach es X.env) (hpl : (backTo pos (starEach es X.env)).any (·.1) = false) (hi : init x ≠ none) : PE X (.Call (.Name x p) (e :: es) [] pos) (tE X.K W fun ρ => do
    let ds ← Fs ρ
    mkM init okm call fz x ds) := by
  obtain ⟨hmg, hkp⟩ := hc hi
  refine ⟨fun pins s σ H Q I ⟨mu, g, ρ, S, R, h⟩ => ?_⟩
  refine wpAny_Call_Name_kw (ld_glob I hg hmg ?_ hdb)
  have h1 := Wp.bd h
  have q : tA X.K W Fs σ H fun vs H2 => ∃ mu g ds, Sim X.K mu g H2 ∧ RVs X.K (Own mu g) mu H2 vs ds ∧ Wp X.K (fun c d H => W c d σ H) mu g H2 (mkM init okm call fz x ds g) fun mu' g' H' d => ∀ v, RV X.K (Own mu' g') mu' H' v d → Q v H' :=
    ⟨mu, g, ρ, S, R, h1.mono fun mu1 g1 H1 ds e1 S1 h2 vs rs => ⟨mu1, g1, ds, S1, rs, h2⟩⟩
  refine PySem.W.callWith_K (h₀ := X.base) I.ok.mod.kin hkp (thn (ha.run pos pins s σ H _ I q) fun us s2 ⟨vs, H2, I2, r, mu2, g2, ds, S2, rs, q⟩ => ⟨I2.kIn, ?_⟩) he hpl
  exact mk_run c tk I2 r S2 rs q
theorem s_mk0 (c : InitOk X init okm call) (hc : init x ≠ none → X.mg x = some (.ref (He.ga X.K x)) ∧ PySem.W.keepIn X.K (.ref (He.ga X.K x)) = true) (tk : Takes X W) (hg : Gl X x) (hdb : (x == ("__debug__" : Str)) = false) (hi : init x ≠ none) : PE X (.Call (.Name x p) [] [] pos) (tE X.K W fun ρ => do
    let ds ← (pure [] : M (List D))
    mkM init okm call fz x ds) := by
  obtain ⟨hmg, hkp⟩ := hc hi
  refine ⟨fun pins s σ H Q I ⟨mu, g, ρ, S, R, h⟩ => ?_⟩
  refine wpAny_Call_Name_kw (ld_glob I hg hmg ?_ hdb)
  exact PySem.W.callWith_K0 I.kIn hkp (mk_run (us := []) c tk I .nil S .nil h)
end

/-! ### isinstance of own classes, of ValueError -/
section
open PySem.W PySem.Calls
variable {prog : Program} {w : World} {A : Around} {E : Value → Shared → Prop} {s : Shared} {K : Frag} {x D : Addr} {ox : Obj} {od : Option Obj}
theorem exc_class {Q : Option Value → Shared → Prop} (c : ExcC K D) (X : K.In s.heap) (I : InstAt s.heap x ox D od) (h : Q (some (.ref D)) { s with toks := s.toks + 1 }) : wpAny (model prog w) A (getAttr? (.ref x) "__class__") Q E s := by
  have hcs : (clsIn K D).isSome = true := by
    obtain ⟨cd, hc, _⟩ := any_some c.hd
    rw [hc]; rfl
  have hf : findObj K D od "__class__" = some (.bind (.builtin "getset_descriptor.__get__") (.builtin "object.__class__")) := by
    cases od with
    | none => exact findObj_dataN hcs c.ha c.hn c.ht
    | some o => exact findObj_data hcs c.ha c.hn c.ht
  obtain ⟨hp, g, d, t, os⟩ := s
  have L0 := I.type (M := model prog w)
  have L1 := looks_findIn (M := model prog w) X c.hg
  have L2 := looks_findIn (M := model prog w) X c.hk
  have L3 := looks_find (M := model prog w) X I hf
  have sub : Looks (model prog w) hp (isInstance (.ref x) (.type "BaseException")) true := L0.andThen (looks_subIn X c.hs)
  have hx2 : (Value.builtin "BaseException.__getattribute__" == Value.builtin "object.__getattribute__") = false := by decide +kernel
  have hx1 : (onTheHeap (Value.ref D) && Value.builtin "BaseException.__getattribute__" == Value.builtin "object.__getattribute__") = false := by rw [hx2]; rfl
  unfold getAttr? getAttrBy? getAttrBy
  refine wpAny_bind (wpAny_mkText (wpAny_bind (wpAny_attempt (wpAny_holding (wpAny_bind (L0.at (wpAny_bind (L1.at ?_))))))))
  show wpAny _ _ (if (onTheHeap (Value.ref D) && Value.builtin "BaseException.__getattribute__" == Value.builtin "object.__getattribute__") = true then _ else _) _ _ _
  rw [hx1, if_neg Bool.false_ne_true]
  unfold getAttrByItsOwn hookBefore
  refine wpAny_bind ?_
  rw [if_pos (show onTheHeap (Value.ref D) = true from rfl)]
  refine L2.at (wpAny_bind (wpAny_attempt (wpAny_holding ?_)))
  unfold callGetattribute
  rw [show (false && onTheHeap (Value.builtin "BaseException.__getattribute__")) = false from rfl, if_neg Bool.false_ne_true]
  unfold boundAndCalled
  rw [PySem.F.excAttr_ValueError.ga.bind (.ref x)]
  refine wpAny_bind (wpAny_pure ?_)
  show wpAny _ _ (call (.builtin "BaseException.__getattribute__") [.ref x, .str "__class__" t]) _ _ _
  refine wpAny_call (codeAny_call_builtin PySem.F.excAttr_ValueError.ga.plain PySem.F.entry_bexc_ga ?_)
  refine @check_slot (model prog w) _ _ ⟨hp, g, d, t + 1, os⟩ "BaseException.__getattribute__" "BaseException" "__getattribute__" (.ref x) [.str "__class__" t] [] _ (by decide +kernel) (by decide +kernel) sub (PySem.F.args_bexc_ga (.ref x) (.str "__class__" t)) ?_
  unfold Builtin.«object.__getattribute__»
  refine wpAny_bind (wpAny_of_eq (a := ((Value.ref x : Value), [Value.str "__class__" t])) (by first | rfl | (simp only [slotArgs]; rfl)) ?_)
  refine wpAny_bind (wpAny_pure (wpAny_bind (L0.at (wpAny_bind (L3.at ?_)))))
  show wpAny _ _ (holding [Value.builtin "object.__class__"] (call (.builtin "getset_descriptor.__get__") [.builtin "object.__class__", .ref x, .ref D]) >>= ret) _ _ _
  refine wpAny_bind (wpAny_holding (wpAny_call (class_get (s := ⟨hp, g, d, t + 1, os⟩) (ox := ox) (od := od) X I c.hm ?_)))
  refine wpAny_pure ?_
  show wpAny _ _ (handedOut (.ref D)) _ _ _
  rw [handedOut_of (v := .ref D) rfl]
  first
    | exact wpAny_pure (wpAny_pure h)
    | exact wpAny_pure h
    | exact wpAny_pure (wpAny_bind (wpAny_pure (wpAny_pure h)))
theorem kitx_excA (c : ExcC K D) : KitX K (.ref x) (.ref D) (fun h => ∃ ox od, InstAt h x ox D od) where
  ty := fun _ _ _ ⟨_, _, I⟩ => I.type
  it := fun _ _ X _ => by
    obtain ⟨cdD, hcD, _⟩ := any_some c.hd
    unfold clsIn at hcD
    split at hcD
    · rename_i c' d' cd' sl' ho
      intro A' Q' E' s' k q
      unfold isType loadHead
      exact wpAny_bind (wpAny_loadPart (k _ _ (X _ _ ho)) (wpAny_pure q))
    · cases hcD
  ne := fun h tp dd its n sl X htp => by
    obtain ⟨cdD, hcD, _⟩ := any_some c.hd
    refine Bool.eq_false_iff.mpr fun q => ?_
    have e : D = tp := Value.ref.inj (beq_iff_eq.mp q)
    subst e
    unfold clsIn at hcD
    split at hcD
    · rename_i c' d' cd' sl' ho
      have z := (X _ _ ho).symm.trans htp
      cases z
    · cases hcD
  ca := fun X ⟨_, _, I⟩ k => exc_class c X I k
end
/-- an exception's object as isinstance sees it -/
theorem exc_inst {X : Cx} {pins : List (Addr × Obj)} {σ : L2.St} {H : Hp} {s : Shared} {own : Addr → Prop} {mu : List Addr} {v : V} {C : Str} {ns : List Str} {ds : List D} (I : Inv X pins σ H s) (r : RV X.K own mu H v (.exc C ns ds)) : ∃ a, v = .ref a ∧ ∃ ox od, PySem.W.InstAt s.heap a ox (He.ga X.K C) od := by
  cases r with
  | @exc0 a C h1 h2 =>
    obtain ⟨⟨vs, sl, e⟩, _⟩ := I.hok a _ h2
    exact ⟨a, rfl, _, none, e, rfl, rfl, trivial⟩
  | @exc1 a dx C fs ds h1 h2 h3 h4 r =>
    obtain ⟨⟨vs, sl, e⟩, _⟩ := I.hok a _ h2
    obtain ⟨mA, ⟨o, _, _, e2, _⟩, _⟩ := I.hok dx _ h4
    exact ⟨a, rfl, _, some o, e, rfl, rfl, e2⟩
def IsiOk (K : PySem.W.Frag) (isi : Str → Str → Option Bool) : Prop := ∀ C c b, isi C c = some b → PySem.W.kitOne K (.ref (He.ga K C)) (clV K c) = some b ∧ Cls K (He.ga K C) ∧ InsC K (He.ga K C)
def IsxOk (K : PySem.W.Frag) (isx : Str → Str → Option Bool) : Prop := ∀ C c b, isx C c = some b → PySem.W.kitOne K (.ref (He.ga K C)) (clV K c) = some b ∧ ExcC K (He.ga K C)
theorem isAny_kit {K : PySem.W.Frag} {isi : Str → Str → Option Bool} {C : Str} (hk : ∀ c b, isi C c = some b → PySem.W.kitOne K (.ref (He.ga K C)) (clV K c) = some b) : ∀ {cs : List Str} {b : Bool}, isAny isi C cs = some b → cs ≠ [] → PySem.W.kitAny K (.ref (He.ga K C)) (cs.map fun c => clV K c) = some b
  | [], _, _, q => absurd rfl q
  | c :: cs, b, h, _ => by
    unfold isAny at h
    split at h
    · rename_i e
      cases h
      exact kitAny_cons (hk _ _ e) (fun z => nomatch z) fun _ => rfl
    · rename_i e
      refine kitAny_cons (hk _ _ e) (fun _ => ?_) fun z => nomatch z
      by_cases hn : cs = []
      · subst hn
        cases h
        exact kitAny_nil
      · exact isAny_kit hk h hn
    · cases h
/-- what is asked of the classes -/
theorem isc_kit {X : Cx} {pins : List (Addr × Obj)} {σ : L2.St} {H : Hp} {s : Shared} {mu : List Addr} {g : G} {v : V} {u : Value} {d : D} {isi isx : Str → Str → Option Bool} {cs : List Str} {b : Bool} (I : Inv X pins σ H s) (S : Sim X.K mu g H) (r : RV X.K (Own mu g) mu H v d) (ru : RelV v u)
    (h1 : IsiOk X.K isi) (h2 : IsxOk X.K isx) (h : iscB isi isx cs g d = some b) (hne : cs ≠ []) : ∃ (C : Str) (P : Heap → Prop), PySem.W.KitX X.K u (.ref (He.ga X.K C)) P ∧ P s.heap ∧ u ≠ .builtin "__main__.__loader__#opaque" ∧
      PySem.W.kitAny X.K (.ref (He.ga X.K C)) (cs.map fun c => clV X.K c) = some b ∧ (∀ c, cs = [c] → PySem.W.kitOne X.K (.ref (He.ga X.K C)) (clV X.K c) = some b) := by
  have one : ∀ {f : Str → Str → Option Bool} {C c : Str}, isAny f C [c] = some b → f C c = some b := fun {f C c} e => by
    unfold isAny at e
    split at e
    · rename_i q; cases e; exact q
    · rename_i q; cases e; exact q
    · cases e
  have fst : ∀ {f : Str → Str → Option Bool} {C : Str}, isAny f C cs = some b → ∃ c k, f C c = some k := fun {f C} e => by
    cases cs with
    | nil => exact absurd rfl hne
    | cons c cs =>
      unfold isAny at e
      split at e
      · rename_i q; exact ⟨_, _, q⟩
      · rename_i q; exact ⟨_, _, q⟩
      · cases e
  have obj : ∀ {C : Str} {ns : List Str}, clsO g d = some (C, ns) → isAny isi C cs = some b → ∃ (C : Str) (P : Heap → Prop), PySem.W.KitX X.K u (.ref (He.ga X.K C)) P ∧ P s.heap ∧ u ≠ .builtin "__main__.__loader__#opaque" ∧
      PySem.W.kitAny X.K (.ref (He.ga X.K C)) (cs.map fun c => clV X.K c) = some b ∧ (∀ c, cs = [c] → PySem.W.kitOne X.K (.ref (He.ga X.K C)) (clV X.K c) = some b) := fun {C ns} hc ha => by
    obtain ⟨a, dx, fs, rfl, ea, _⟩ := clsO_ok S r hc
    cases ru
    obtain ⟨c0, k0, q0⟩ := fst ha
    obtain ⟨_, cl, ic⟩ := h1 _ _ _ q0
    obtain ⟨mA, O, _⟩ := ins_get I.hok ea
    obtain ⟨od, J, _⟩ := O.look
    exact ⟨C, _, PySem.W.kitx_own (cl.get _) cl.hd ic.ha ic.hn ic.ht ic.hm, J, (fun z => nomatch z), isAny_kit (fun c b q => (h1 _ _ _ q).1) ha hne, fun c e => by subst e; exact (h1 _ _ _ (one ha)).1⟩
  unfold iscB at h
  split at h
  · rename_i C ns ds
    obtain ⟨c0, k0, q0⟩ := fst h
    obtain ⟨a, rfl, ox, od, J⟩ := exc_inst I r
    cases ru
    exact ⟨C, _, kitx_excA (h2 _ _ _ q0).2, ⟨ox, od, J⟩, (fun z => nomatch z), isAny_kit (fun c b q => (h2 _ _ _ q).1) h hne, fun c e => by subst e; exact (h2 _ _ _ (one h)).1⟩
  · split at h
    · rename_i C ns hc
      exact obj hc h
    · cases h
def rIsc1 (K : PySem.W.Frag) (isi isx : Str → Str → Option Bool) (c : Str) : List V → Hp → VK → Prop := fun xs H Q => ∃ mu g v d b, xs = [v, clVV K c] ∧ Sim K mu g H ∧ RV K (Own mu g) mu H v d ∧ iscB isi isx [c] g d = some b ∧ Q (.bl b) H
def rIscT (K : PySem.W.Frag) (isi isx : Str → Str → Option Bool) (cs : List Str) : List V → Hp → VK → Prop := fun xs H Q => ∃ mu g v d b tp, xs = [v, .ref tp] ∧ H tp = some (.tup (cs.map fun c => clVV K c)) ∧ Sim K mu g H ∧ RV K (Own mu g) mu H v d ∧ iscB isi isx cs g d = some b ∧ Q (.bl b) H
theorem vals_cls {K : PySem.W.Frag} : ∀ {cs : List Str} {us : List Value}, Vals (cs.map fun c => clVV K c) us → us = cs.map fun c => clV K c
  | [], _, .nil => rfl
  | _ :: _, _, .cons r t => by rw [List.map_cons, ← vals_cls t, cl_rel r]
section
variable {X : Cx} {W : WX} {a : Expr} {Fa : FE} {p pos : Pos} {isi isx : Str → Str → Option Bool}
theorem call_isc1 {c : Str} (h1 : IsiOk X.K isi) (h2 : IsxOk X.K isx) : CallR X (.builtin "isinstance") (rIsc1 X.K isi isx c) := by
  intro pins s σ H xs us Q I r ⟨mu, g, v, d, b, e, S, rv, hb, q⟩
  subst e
  obtain ⟨u, t, rfl, ru, rt⟩ := vals2 r
  have := cl_rel rt
  subst this
  obtain ⟨C, P, Z, hP, hx, _, hk⟩ := isc_kit I S rv ru h1 h2 hb (by simp)
  exact PySem.W.kia_one Z I.kIn hP (hk c rfl) hx fun tk => ⟨.bl b, H, I.kept (t' := tk) fun _ _ z => z, rfl, q⟩
theorem call_iscT {cs : List Str} (hne : cs ≠ []) (h1 : IsiOk X.K isi) (h2 : IsxOk X.K isx) : CallR X (.builtin "isinstance") (rIscT X.K isi isx cs) := by
  intro pins s σ H xs us Q I r ⟨mu, g, v, d, b, tp, e, ht, S, rv, hb, q⟩
  subst e
  obtain ⟨u, t, rfl, ru, rt⟩ := vals2 r
  cases rt
  obtain ⟨C, P, Z, hP, hx, hk, _⟩ := isc_kit I S rv ru h1 h2 hb hne
  obtain ⟨_, its, rs, ⟨⟨oc, od, oda, osl⟩, ho, hc, n, hd⟩⟩ := I.hok tp _ ht
  simp only at hc hd
  subst hc hd
  have := vals_cls rs
  subst this
  exact PySem.W.kia_tup Z I.kIn hP ho hk hx fun tk => ⟨.bl b, H, I.kept (t' := tk) fun _ _ z => z, rfl, q⟩
theorem s_isc1 {c : Str} {te : Expr} (h1 : IsiOk X.K isi) (h2 : IsxOk X.K isx) (hg : Gl X "isinstance") (hm : X.mg "isinstance" = none) (ha : PE X a (tE X.K W Fa)) (ht : PE X te (tC (clVV X.K c)))
    (s1 : starEach [a, te] X.env = (false, eval a X.env) :: starEach [te] X.env) (s2 : starEach [te] X.env = (false, eval te X.env) :: starEach [] X.env) : PE X (.Call (.Name "isinstance" p) [a, te] [] pos) (tE X.K W fun ρ => do
    let x ← Fa ρ
    iscM isi isx [c] x) :=
  pe_mono (pe_callB (call_isc1 h1 h2) hg hm (by decide +kernel) (pa_cons ha (pa_cons ht pa_nil s2) s1) (by decide) (by decide) s1 (by rw [s2]; rfl)) fun σ H Q ⟨mu, g, ρ, S, R, h⟩ => ⟨mu, g, ρ, S, R, (Wp.bd h).mono fun mu1 g1 H1 d1 e1 S1 h1 v1 r1 => by
    unfold iscM at h1
    split at h1
    · rename_i b hb
      exact ⟨mu1, g1, v1, d1, b, rfl, S1, r1, hb, Wp.here S1 h1 _ (.bl _)⟩
    · exact h1.elim⟩
theorem s_iscT {cs : List Str} {tes : List Expr} {j : Nat} {tp : Pos} (hne : cs ≠ []) (hlen : cs.length ≤ sizeLine) (h1 : IsiOk X.K isi) (h2 : IsxOk X.K isx) (hg : Gl X "isinstance") (hm : X.mg "isinstance" = none) (ha : PE X a (tE X.K W Fa)) (ht : PA X tes (fun σ H Q => Q (cs.map fun c => clVV X.K c) H))
    (s1 : starEach [a, .Tuple tes j tp] X.env = (false, eval a X.env) :: starEach [.Tuple tes j tp] X.env) (s2 : starEach [.Tuple tes j tp] X.env = (false, eval (.Tuple tes j tp) X.env) :: starEach [] X.env) : PE X (.Call (.Name "isinstance" p) [a, .Tuple tes j tp] [] pos) (tE X.K W fun ρ => do
    let x ← Fa ρ
    iscM isi isx cs x) :=
  pe_mono (pe_callB (call_iscT hne h1 h2) hg hm (by decide +kernel) (pa_cons ha (pa_cons (pe_tup ht) pa_nil s2) s1) (by decide) (by decide) s1 (by rw [s2]; rfl)) fun σ H Q ⟨mu, g, ρ, S, R, h⟩ => ⟨mu, g, ρ, S, R, (Wp.bd h).mono fun mu1 g1 H1 d1 e1 S1 h1 v1 r1 => by
    refine ⟨by rw [List.length_map]; exact hlen, fun q hq => ?_⟩
    unfold iscM at h1
    split at h1
    · rename_i b hb
      exact ⟨mu1, g1, v1, d1, b, q, rfl, upd_same, S1.new hq, r1.ext (Ext.new hq), hb, Wp.here (S1.new hq) (Wp.ext (Ext.new hq) h1) _ (.bl _)⟩
    · exact h1.elim⟩
end
end DL

set_option Elab.async false
set_option linter.all false
set_option maxRecDepth 100000
set_option maxHeartbeats 4000000
/-! the deep layer: raise, try -/
namespace DL
open PySem PySem.Spec PyProof.Rows L2
variable [Wd]

section
variable {X : Cx} {W : WX} {e : Expr} {es : List Expr} {x : Str} {p pos pos' : Pos} {Fs : Env' → M (List D)}
def rseM (exk : Str → Option (List Str)) (C : Str) (ds : List D) (ρ : Env') : M (Fl × Env') := match exk C with
    | some [] => if ds.length ≤ 1000 ∧ ds ≠ [] then pure (.rs ⟨C, [], []⟩, ρ) else M.bad
    | some fs => if ds.length = fs.length then pure (.rs ⟨C, fs.reverse, ds.reverse⟩, ρ) else M.bad
    | none => M.bad
/-- raise X(e, ..), X without own __init__ -/
theorem ss_rse0 {exk : Str → Option (List Str)} (hc : X.calm = true) (tk : Takes X W) (h0 : exk x = some []) (hk : X.mg x = some (.ref (He.ga X.K x)) ∧ ExcK X.K (He.ga X.K x) []) (hg : Gl X x) (ha : PA X (e :: es) (tA X.K W Fs)) (hdb : (x == ("__debug__" : Str)) = false)
    (he : starEach (e :: es) X.env = (false, eval e X.env) :: starEach es X.env) (hpl : (backTo pos (starEach es X.env)).any (·.1) = false) :
    PS X (.Raise (some (.Call (.Name x p) (e :: es) [] pos)) none pos') (tS X.K W fun ρ => liftS ρ (Fs ρ) fun ds => rseM exk x ds ρ) := by
  obtain ⟨hm, k1, k2, k3, k4⟩ := hk
  refine ps_mono (ps_raise hc tk (pmk_ownA F.excBase_ValueError k1 hm k2 (raises_own k3 k4) hg ha hdb he hpl)) fun D' σ H ⟨mu, g, ρ, S, R, h⟩ => ?_
  refine ⟨mu, g, ρ, S, R, (Wp.lift R h).mono fun mu1 g1 H1 ds e1 S1 h1 vs rs => ?_⟩
  unfold rseM at h1
  rw [h0] at h1
  simp only at h1
  split at h1
  · rename_i hl
    refine ⟨by rw [rs.length, sizeLine_eq]; have := hl.1; omega, ?_⟩
    exact Wp.here S1 h1 σ none (R.ext e1) ⟨rfl, rfl⟩
  · exact h1.elim
end

/-! ### an exception caught is a value -/
section
variable {X : Cx} {pins : List (Addr × Obj)} {σ : L2.St} {H : Hp} {s sI s' : Shared} {B : Heap} {a : Addr} {o : HO}
theorem landT (I : Inv X pins σ H sI) (nb : ∀ b o, sI.heap.get? b = some o → b ∉ frs X.stack → B.get? b = some o) (st : B.StaysIn s'.heap) (up : sI.heap.UpToSlots s'.heap) (os : s'.os = sI.os) (ag : AllBare s'.gens)
    (na : H a = none) (nI : sI.heap.get? a = none) (new : ObjOk X.prog X.w (upd H a o) s'.heap a o) : Inv X pins σ (upd H a o) s' := by
  have nf : ∀ b ∈ frs X.stack, ∀ o, sI.heap.get? b = some o → ∃ sl, s'.heap.get? b = some { o with slots := sl } := fun b hb o e => by
    obtain ⟨_, o', e', hd⟩ := I.stack.mem hb
    rw [e] at e'; cases e'
    exact up b o e hd
  have ne : ∀ b u, sI.heap.get? b = some u → b ≠ a := fun b u e z => by rw [z, nI] at e; cases e
  have J := I.call (ch := []) (h' := s'.heap) (g' := s'.gens) (t' := s'.toks) (d' := s'.drawn) (H' := upd H a o)
    ⟨fun b o e _ hb _ => st b o (nb b o e hb), fun b o e _ hb _ => nf b hb o e, fun b u e n _ => by rw [upd_ne (ne b u e)]; exact n, fun b o e _ => by
      by_cases hb : b ∈ frs X.stack
      · obtain ⟨sl, q⟩ := nf b hb o e
        exact ⟨_, q⟩
      · exact ⟨o, st b o (nb b o e hb)⟩, fun b xs e => by rw [upd_ne (ne_of_none e na)]; exact e, fun b ob u e => by rw [upd_ne (ne_of_none e na)]; exact e, fun b ps e => ⟨#[], by rw [upd_ne (ne_of_none e na), e]; simp⟩⟩
    (HOk.laidN ((I.inGround nb).kept st) (fun _ _ z => z) na new) ag (fun _ z => nomatch z)
  obtain ⟨a1, a2, a3, a4, a5⟩ := s'
  have e5 : a5 = sI.os := os
  subst e5
  exact J
theorem excO_ok {P : Program} {w : World} {H : Hp} {h : Heap} {C : Addr} {d : Option Addr} {oe : Obj} {vs : Array Value} (e : h.get? a = some oe) (z : Zc (.ref C) d oe) (hd : oe.data = .fields vs) : ObjOk P w H h a (excO a C d) := by
  obtain ⟨oc, od, oda, osl⟩ := oe
  obtain ⟨h1, h2⟩ := z
  dsimp only at h1 h2 hd
  subst h1 h2 hd
  exact ⟨⟨vs, osl, e⟩, ⟨_, e⟩, fun h1 h2 ⟨vs, sl, q⟩ k => ⟨vs, sl, k _ q⟩⟩
/-- the context of an except suite, no pin for the exception -/
theorem suiteI (I : Inv X pins σ H s) (a : Addr) : Inv (X.suite a (X.pn ++ pins)) [] σ H s :=
  ⟨I.ok.suite _ _, I.os, I.bare, I.base, I.loc, I.cell, I.free, I.freeC, fun p hp => I.pin p (by rw [List.append_nil] at hp; exact hp), I.hok, I.len⟩
theorem unsuiteI {a : Addr} {pn' : List (Addr × Obj)} (I : Inv (X.suite a (X.pn ++ pins)) pn' σ H s) (ok : X.Ok) : Inv X pins σ H s :=
  ⟨ok, I.os, I.bare, I.base, I.loc, I.cell, I.free, I.freeC, fun p hp => I.pin p (List.mem_append_left _ hp), I.hok, I.len⟩
end
section
variable {K : PySem.W.Frag} {own : Addr → Prop} {mu : List Addr} {g : G} {H : Hp}
theorem RE.none_ {σ : L2.St} {ρ : Env'} (R : RE K own mu H σ ρ) (i : Nat) : RE K own mu H (σ.set i none) (ρ.set i none) :=
  ⟨by simp [R.len], fun j d h => by
    by_cases e : i = j
    · subst e
      by_cases hl : i < ρ.length
      · rw [List.getElem?_set_self hl] at h; cases h
      · rw [List.getElem?_eq_none (by simpa using hl)] at h; cases h
    · rw [List.getElem?_set_ne e] at h
      rw [List.getElem?_set_ne e]
      exact R.at_ j d h⟩
theorem RV.caught (S : Sim K mu g H) {a : Addr} {e : Exn} {dx : Option Addr} (na : H a = none) (h : XR K (Own mu g) mu H e dx) : RV K (Own mu g) mu (upd H a (excO a (He.ga K e.cls) dx)) (.ref a) (.exc e.cls e.ns e.vs) := by
  have E : Ext mu g H mu g (upd H a (excO a (He.ga K e.cls) dx)) := Ext.new na
  obtain ⟨c, ns, vs⟩ := e
  cases dx with
  | none =>
    obtain ⟨h1, h2⟩ := h
    dsimp only at h1 h2
    subst h1 h2
    exact .exc0 (S.nown_fresh na) upd_same
  | some d =>
    obtain ⟨fs, h1, h2, h3, h4⟩ := h
    dsimp only at h3 h4
    subst h3
    exact .exc1 (S.nown_fresh na) upd_same h2 (by rw [upd_ne (ne_of_none h1 na)]; exact h1) (h4.ext E)
end
/-- what clauses do of an exception that was caught -/
def PHs (X : Cx) (W : WX) (hs : List ExceptHandler) (F : Exn → Env' → M (Fl × Env')) : Prop :=
  ∀ (pins : List (Addr × Obj)) (D' : Ends) (a : Addr) (B : Heap) (sI s3 : Shared) (σ : L2.St) (H : Hp) (e : Exn) (dx : Option Addr) (mu : List Addr) (g : G) (ρ : Env'), Inv X pins σ H sI → (∀ b o, sI.heap.get? b = some o → b ∉ frs X.stack → B.get? b = some o) → sI.heap.UpToSlots s3.heap →
    HandSPX.FlyingZ B (X.env :: X.outer) a (Zc (.ref (He.ga X.K e.cls)) dx) s3.heap → H a = none → s3.os = sI.os → AllBare s3.gens → Sim X.K mu g H → RE X.K (Own mu g) mu H σ ρ → XR X.K (Own mu g) mu H e dx →
    Wp X.K (fun _ _ _ => False) mu g H (F e ρ g) (flEnd X.K W D') → wpAny (model X.prog X.w) X.A (handleBy (.ref a) X.env hs) (SP X pins D') X.xe s3
section
variable {X : Cx} {W : WX} {body suite : List Stmt} {b₀ : Stmt} {hs : List ExceptHandler} {np pos pos' : Pos} {x n : Str} {i : Nat} {F : Exn → Env' → M (Fl × Env')} {Fb : FS} {Fss : FS}
theorem hs_nil (st : X.stack = X.env :: X.outer) (hf : X.env.frame = some X.env.locals) (tk : Takes X W) : PHs X W [] fun e ρ => pure (.rs e, ρ) := by
  intro pins D' a B sI s3 σ H e dx mu g ρ J nb up fl3 na os ag S R xr h
  refine wpAny_handleBy_nil ?_
  obtain ⟨k1, k2, k3, oe, vs, T, oT, ts', he, hz, hd, h1, hr⟩ := id fl3
  unfold PySem.passOn
  refine wpAny_bind (wpAny_field he hd h1 ?_)
  rw [if_neg (show ¬ ((Value.ref T == Value.none) = true) from by simp)]
  have fin : wpAny (model X.prog X.w) X.A (setFlight (.ref a) X.env.frame) (fun _ s4 => wpAny (model X.prog X.w) X.A (throw (.ref a) : Sem Flow) (SP X pins D') X.xe s4) X.xe s3 := by
    rw [hf]
    refine HandSPX.setFlight_upZ fl3 fun h4 hh4 up4 => wpAny_throw (tk _ _ ?_)
    exact ⟨a, B, sI, pins, σ, H, _, dx, rfl, J, nb, up.trans up4, .inr (.inr (by rw [st]; exact hh4)), na, os, ag, Wp.here S h σ dx R xr⟩
  first
    | exact wpAny_bind (wpAny_pure (wpAny_bind fin))
    | exact wpAny_bind fin
def hcM (exm : Str → Str → Option Bool) (x : Str) (i : Option Nat) (Fss : FS) (F : Exn → Env' → M (Fl × Env')) (e : Exn) (ρ : Env') : M (Fl × Env') := match exm e.cls x with
    | some true => match i with
      | none => noRs (Fss ρ)
      | some i => fun g => (noRs (Fss (ρ.set i (some (.exc e.cls e.ns e.vs)))) g).bind fun x => pure (x.1, x.2.set i none)
    | some false => F e ρ
    | none => M.bad
theorem Wp.noRs {K : PySem.W.Frag} {mu : List Addr} {g : G} {H : Hp} {m : M (Fl × Env')} {D' : Ends} {k : Fl × Env' → M (Fl × Env')} (h : Wp K (fun _ _ _ => False) mu g H ((noRs m g).bind k) (flEnd K W D')) :
    Wp K (fun _ _ _ => False) mu g H (m g) fun mu' g' H' x => (∀ e, x.1 ≠ .rs e) ∧ Wp K (fun _ _ _ => False) mu' g' H' (k x g') (flEnd K W D') := by
  unfold DL.noRs at h
  cases e : m g with
  | ok x g' =>
    rw [e] at h
    obtain ⟨f, ρ⟩ := x
    intro mu' H' e' s
    cases f with
    | rs x => exact h.elim
    | _ => exact ⟨(fun e z => nomatch z), Wp.ext e' h⟩
  | ex x g' => rw [e] at h; exact h
  | bad => rw [e] at h; exact h.elim
theorem suite_end {pins : List (Addr × Obj)} {D6 : Ends} {a : Addr} {f : Flow} {s6 : Shared} {Q : Flow → Shared → Prop} (ok : X.Ok) (h : SP (X.suite a (X.pn ++ pins)) [] D6 f s6)
    (hn : ∀ σ H, Inv X pins σ H s6 → D6.nx σ H → Q .next s6) (hb : ∀ σ H, Inv X pins σ H s6 → D6.bk σ H → Q .brk s6) (hc : ∀ σ H, Inv X pins σ H s6 → D6.ct σ H → Q .cont s6) (hr : ∀ σ H v u, Inv X pins σ H s6 → RelV v u → D6.rt v H → Q (.ret u) s6) : Q f s6 := by
  cases f with
  | next =>
    obtain ⟨σ6, H6, S6, q6⟩ := h
    exact hn _ _ (unsuiteI S6 ok) q6
  | brk =>
    obtain ⟨σ6, H6, S6, q6⟩ := h
    exact hb _ _ (unsuiteI S6 ok) q6
  | cont =>
    obtain ⟨σ6, H6, S6, q6⟩ := h
    exact hc _ _ (unsuiteI S6 ok) q6
  | ret u =>
    obtain ⟨v6, σ6, H6, S6, r6, q6⟩ := h
    exact hr _ _ _ _ (unsuiteI S6 ok) r6 q6
/-- a clause with or without a name -/
theorem hs_cons {exm : Str → Str → Option Bool} {nm : Option Str} {j : Option Nat} (st : X.stack = X.env :: X.outer) (hf : X.env.frame = some X.env.locals) (hN : X.N.Nodup) (hj : (nm = none ∧ j = none) ∨ ∃ n i, nm = some n ∧ j = some i ∧ X.N[i]? = some n ∧ X.env.scope.names.lookup n = some .local)
    (hg : Gl X x) (hdb : (x == ("__debug__" : Str)) = false) (hx : ∀ C b, exm C x = some b → X.mg x = some (.ref (He.ga X.K x)) ∧ PySem.W.exmOne X.K (.ref (He.ga X.K C)) (.ref (He.ga X.K x)) = some b)
    (hsu : ∀ (a : Addr) (pn : List (Addr × Obj)), PSs (X.suite a pn) (b₀ :: suite) (tS X.K WN Fss)) (hr : PHs X W hs F) :
    PHs X W (.ExceptHandler (some (.Name x np)) nm (b₀ :: suite) pos' :: hs) (hcM exm x j Fss F) := by
  intro pins D' a B sI s3 σ H e dx mu g ρ J nb up fl3 na os ag S R xr h
  have ok := J.ok
  have J3 : Inv X pins σ H s3 := J.landed nb fl3.1 up os ag
  obtain ⟨oe3, vs3, he3, hz3, hd3⟩ := fl3.there
  have nfr : a ∉ frs (X.env :: X.outer) := fun hm => by
    obtain ⟨_, o', e', hnf⟩ := fl3.2.2.1.mem hm
    rw [he3] at e'; cases e'
    exact hnf _ hd3
  have nI : sI.heap.get? a = none := by
    cases q : sI.heap.get? a with
    | none => rfl
    | some o =>
      have z := nb a o q (by rw [st]; exact nfr)
      rw [fl3.2.1] at z; cases z
  have S3 := suiteI J3 a
  unfold hcM at h
  cases hb : exm e.cls x with
  | none => rw [hb] at h; exact h.elim
  | some b =>
    rw [hb] at h
    obtain ⟨hm, hb1⟩ := hx _ _ hb
    refine wpAny_handleBy_cons (codeAny_handlers_test ?_) (by intro q; cases q)
    have LT : PySem.W.Looks (model X.prog X.w) s3.heap (typeOf (.ref a)) (.ref (He.ga X.K e.cls)) := fun A Q E s k q => wpAny_typeOf_ref (k _ _ he3) (by rw [hz3.1]; exact q)
    have LM := PySem.W.exm_one (M := model X.prog X.w) (J3.kIn) LT hb1
    refine ld_glob (X := X.suite a (X.pn ++ pins)) S3 hg hm (LM.here ?_) hdb
    cases b with
    | true =>
      dsimp only at h
      have run : ∀ {σ' : L2.St} {H' : Hp} {mu' : List Addr} {g' : G} {ρ' : Env'} {s4 : Shared} {D6 : Ends}, Inv (X.suite a (X.pn ++ pins)) [] σ' H' s4 → Sim X.K mu' g' H' → RE X.K (Own mu' g') mu' H' σ' ρ' → Wp X.K (fun _ _ _ => False) mu' g' H' (Fss ρ' g') (flEnd X.K WN D6) →
          wpAny (model X.prog X.w) (X.A.mark (some (.ref a))) (execs (b₀ :: suite) X.env) (SP (X.suite a (X.pn ++ pins)) [] D6) (fun _ _ => False) s4 := fun {σ' H' mu' g' ρ' s4 D6} S4 Sm Rm k => (hsu a (X.pn ++ pins)).run [] s4 σ' H' D6 S4 ⟨mu', g', ρ', Sm, Rm, k⟩
      rcases hj with ⟨rfl, rfl⟩ | ⟨n, i, rfl, rfl, hi, hl⟩
      · refine codeAny_handlers_suite ?_
        refine HandSPX.lands_againZ fl3 fun h4 fl4 up4 => ?_
        have J4 : Inv X pins σ H { s3 with heap := h4 } := J.landed nb fl4.1 (up.trans up4) os ag
        have k : Wp X.K (fun _ _ _ => False) mu g H ((noRs (Fss ρ) g).bind fun x => pure x) (flEnd X.K W D') := by
          have h' : Wp X.K (fun _ _ _ => False) mu g H (noRs (Fss ρ) g) (flEnd X.K W D') := h
          cases e0 : noRs (Fss ρ) g with
          | ok y g' => rw [e0] at h'; exact h'
          | ex y g' => rw [e0] at h'; exact h'
          | bad => rw [e0] at h'; exact h'
        refine wpAny_mono (run (D6 := { nx := D'.nx, rt := D'.rt, bk := D'.bk, ct := D'.ct }) (suiteI J4 a) S R (Wp.noRs k |>.mono fun mu1 g1 H1 y e1 S1 k1 => ?_)) (fun f s6 hsp => ?_) (fun _ _ z => False.elim z)
        · obtain ⟨k1, k2⟩ := k1
          obtain ⟨f, ρ1⟩ := y
          have k3 := Wp.here S1 k2
          cases f with
          | rs y => exact absurd rfl (k1 y)
          | _ => exact k3
        · exact suite_end (Q := fun f s6 => SP X pins D' f s6) ok hsp (fun σ H I q => ⟨σ, H, I, q⟩) (fun σ H I q => ⟨σ, H, I, q⟩) (fun σ H I q => ⟨σ, H, I, q⟩) (fun σ H v u I r q => ⟨v, σ, H, I, r, q⟩)
      · refine codeAny_handlers_suite_as ?_
        refine HandSPX.lands_againZ fl3 fun h4 fl4 up4 => ?_
        obtain ⟨oe4, vs4, he4, hz4, hd4⟩ := fl4.there
        have J4 : Inv X pins σ (upd H a (excO a (He.ga X.K e.cls) dx)) { s3 with heap := h4 } := landT J nb fl4.1 (up.trans up4) os ag na nI (excO_ok he4 hz4 hd4)
        have S4 := suiteI J4 a
        have E4 : Ext mu g H mu g (upd H a (excO a (He.ga X.K e.cls) dx)) := Ext.new na
        have hloc : Loc X.env.scope n := .inl hl
        refine store_ok (X := X.suite a (X.pn ++ pins)) (v := .ref a) S4 hN hi hloc rfl (fun s5 S5 => ?_) (.inr hl)
        refine wpAny_mono (run (D6 := { nx := fun σ' H' => D'.nx (σ'.set i none) H', rt := D'.rt, bk := fun σ' H' => D'.bk (σ'.set i none) H', ct := fun σ' H' => D'.ct (σ'.set i none) H' }) S5 (S.new na) ((R.ext E4).set i (RV.caught S na xr)) ((Wp.noRs (Wp.ext E4 h)).mono fun mu1 g1 H1 y e1 S1 k1 => ?_)) (fun f s6 hsp => ?_) (fun _ _ z => False.elim z)
        · obtain ⟨k1, k2⟩ := k1
          obtain ⟨f, ρ1⟩ := y
          have k3 := Wp.here S1 k2
          cases f with
          | rs y => exact absurd rfl (k1 y)
          | nx => exact fun σ2 R2 => k3 _ (R2.none_ i)
          | bk => exact fun σ2 R2 => k3 _ (R2.none_ i)
          | ct => exact fun σ2 R2 => k3 _ (R2.none_ i)
          | rt d => exact k3
        · have hk : X.env.kindOf n = some .local := hl
          refine suite_end (Q := fun f s6 => wpAny (model X.prog X.w) X.A (do bindName X.env n .none; unbindBehindTheSuite X.env n pos') (fun _ s7 => SP X pins D' f s7) X.xe s6) ok hsp (fun σ H I q => gone_ok I hN hi hk fun s7 J7 => ⟨_, _, J7, q⟩) (fun σ H I q => gone_ok I hN hi hk fun s7 J7 => ⟨_, _, J7, q⟩) (fun σ H I q => gone_ok I hN hi hk fun s7 J7 => ⟨_, _, J7, q⟩) (fun σ H v u I r q => gone_ok I hN hi hk fun s7 J7 => ⟨_, _, _, J7, r, q⟩)
    | false => exact hr pins D' a B sI s3 σ H e dx mu g ρ J nb up fl3 na os ag S R xr h
def triM (Fb : FS) (F : Exn → Env' → M (Fl × Env')) (ρ : Env') : M (Fl × Env') := fun g => (Fb ρ g).bind fun x => match x with
    | (.rs e, ρ') => F e ρ'
    | x => pure x
/-- try: body, except .. -/
theorem ss_tri (st : X.stack = X.env :: X.outer) (hf : X.env.frame = some X.env.locals) (hne : hs ≠ [])
    (hb : ∀ (Wb : WX) (pn : List (Addr × Obj)) (xe : Value → Shared → Prop), Takes (X.tr pn xe) Wb → PassesOwn (model X.prog X.w) X.A X.env xe → PSs (X.tr pn xe) body (tS X.K Wb Fb)) (hh : PHs X W hs F) :
    PS X (.Try body hs [] [] pos) (tS X.K W (triM Fb F)) := by
  refine ⟨fun pins s σ H D' I ⟨mu, g, ρ, S, R, h⟩ => ?_⟩
  have ok := I.ok
  have hfr : X.A.frames = some (X.env :: X.outer) := by rw [ok.frames, st]
  obtain ⟨h0, hs', rfl⟩ : ∃ h0 hs', hs = h0 :: hs' := by
    cases hs with
    | nil => exact absurd rfl hne
    | cons h0 hs' => exact ⟨h0, hs', rfl⟩
  refine wpAny_Try_except ?_
  let Wb : WX := fun cls d σ' H' => ∃ mu g ρ e, cls = .ref (He.ga X.K e.cls) ∧ Sim X.K mu g H' ∧ RE X.K (Own mu g) mu H' σ' ρ ∧ XR X.K (Own mu g) mu H' e d ∧ Wp X.K (fun _ _ _ => False) mu g H' (F e ρ g) (flEnd X.K W D')
  have hbody : tS X.K Wb Fb D' σ H := ⟨mu, g, ρ, S, R, (Wp.bindI (show Wp X.K (fun _ _ _ => False) mu g H ((Fb ρ g).bind fun x => match x with
    | (.rs e, ρ') => F e ρ'
    | x => pure x) (flEnd X.K W D') from h)).mono fun mu1 g1 H1 y e1 S1 k1 => by
      obtain ⟨f, ρ1⟩ := y
      cases f with
      | rs e => exact fun σ2 dx R2 x2 => ⟨mu1, g1, ρ1, e, rfl, S1, R2, x2, k1⟩
      | nx => exact Wp.here (X := fun _ _ _ => False) S1 k1
      | bk => exact Wp.here (X := fun _ _ _ => False) S1 k1
      | ct => exact Wp.here (X := fun _ _ _ => False) S1 k1
      | rt d => exact Wp.here (X := fun _ _ _ => False) S1 k1⟩
  refine wpAny_mono ((hb Wb (X.pn ++ pins) (fun e s₁ => wpAny (model X.prog X.w) X.A (noteFrame e X.env) (fun _ s₂ => wpAny (model X.prog X.w) X.A (setFlight e none) (fun _ s₃ =>
    wpAny (model X.prog X.w) X.A (handleBy e X.env (h0 :: hs')) (SP X pins D') X.xe s₃) X.xe s₂) X.xe s₁) (fun u s' xx => ?_) PassesOwn.looking).run [] s σ H D' (I.toTry _) hbody) (fun f s1 hsp => ?_) (fun e s1 he => he)
  · obtain ⟨a, B, sI, pins', σ', H', cls, d, rfl, J', nb, up, sky, na, os, ag, mu', g', ρ', e, rfl, S', R', xr, k⟩ := xx
    have J : Inv X pins σ' H' sI := J'.ofTry ok
    have sky' : Sky B (X.env :: X.outer) a (Zc (.ref (He.ga X.K e.cls)) d) X.env.locals s'.heap := by rw [← st]; exact sky
    show wpAny (model X.prog X.w) X.A (noteFrame (.ref a) X.env) _ _ _
    exact Sky.land Zc.steady hfr hf sky' fun h3 fl3 up3 => hh pins D' a B sI { s' with heap := h3 } σ' H' e d mu' g' ρ' J nb (up.trans up3) fl3 na os ag S' R' xr k
  · cases f with
    | next =>
      obtain ⟨σ', H', J', q⟩ := hsp
      exact wpAny_execs_nil ⟨σ', H', J'.ofTry ok, q⟩
    | brk =>
      obtain ⟨σ', H', J', q⟩ := hsp
      exact ⟨σ', H', J'.ofTry ok, q⟩
    | cont =>
      obtain ⟨σ', H', J', q⟩ := hsp
      exact ⟨σ', H', J'.ofTry ok, q⟩
    | ret u =>
      obtain ⟨v, σ', H', J', r, q⟩ := hsp
      exact ⟨v, σ', H', J'.ofTry ok, r, q⟩
end
end DL

set_option Elab.async false
set_option linter.all false
set_option maxRecDepth 100000
set_option maxHeartbeats 4000000
/-! the deep layer: len(set(t)) -/
namespace DL
open PySem PySem.Spec PySem.Calls PyProof.Rows L2

theorem seen_snoc {z : Key} : ∀ {ks acc : List Key}, seenK acc (ks ++ [z]) = if hasK (seenK acc ks) z = true then seenK acc ks else seenK acc ks ++ [z]
  | [], acc => rfl
  | k :: ks, acc => by
    rw [List.cons_append]
    simp only [seenK]
    split
    · exact seen_snoc
    · exact seen_snoc
theorem has_snoc {acc : List Key} {z k : Key} : hasK (acc ++ [z]) k = (hasK acc k || decide (k = z)) := by
  unfold hasK
  rw [List.any_append]
  simp only [List.any_cons, List.any_nil, Bool.or_false]
  congr 1
  rw [Bool.eq_iff_iff]
  simp only [decide_eq_true_eq]
  exact eq_comm
theorem seen_len : ∀ (ks acc : List Key), (seenK acc ks).length ≤ acc.length + ks.length
  | [], acc => by show acc.length ≤ _; omega
  | k :: ks, acc => by
    simp only [seenK]
    split
    · have := seen_len ks acc
      rw [List.length_cons]; omega
    · have := seen_len ks (acc ++ [k])
      rw [List.length_append] at this
      simp only [List.length_cons, List.length_nil] at this ⊢
      omega
/-- at p: a set of what is in ks -/
def setHas (P : Program) (w : World) (h : Heap) (p : Addr) (ks : List Key) : Prop := h.SetOf (mixKind P w) p (hasK (seenK [] ks)) (seenK [] ks).length
section
variable {P : Program} {w : World} {A : Around} {E : Value → Shared → Prop} {s : Shared}
theorem setOf_congr' {h : Heap} {p : Addr} {S S' : Key → Bool} {n n' : Nat} (x : h.SetOf (mixKind P w) p S n) (e : ∀ k, S k = S' k) (en : n = n') : h.SetOf (mixKind P w) p S' n' := by
  obtain ⟨o, es, ep, t, a1, a2, a3, a4, a5, a6, a7, a8⟩ := x
  exact ⟨o, es, ep, t, a1, a2, a3, a4, fun k => by rw [← e k]; exact a5 k, a6, a7, a8.trans en⟩
theorem setHas.next {h : Heap} {p : Addr} {ks : List Key} {i : Nat} {z : Key} (e : ks[i]? = some z) (x : h.SetOf (mixKind P w) p (fun k => hasK (seenK [] (ks.take i)) k || decide (k = z)) (if hasK (seenK [] (ks.take i)) z = true then (seenK [] (ks.take i)).length else (seenK [] (ks.take i)).length + 1)) : setHas P w h p (ks.take (i + 1)) := by
  unfold setHas
  rw [List.take_add_one, e, Option.toList_some, seen_snoc]
  refine setOf_congr' x (fun k => ?_) ?_
  · by_cases hm : hasK (seenK [] (ks.take i)) z = true
    · rw [if_pos hm]
      by_cases q : k = z
      · subst q; rw [hm]; rfl
      · rw [decide_eq_false q, Bool.or_false]
    · rw [if_neg hm, has_snoc]
  · by_cases hm : hasK (seenK [] (ks.take i)) z = true
    · rw [if_pos hm, if_pos hm]
    · rw [if_neg hm, if_neg hm, List.length_append]; rfl
/-- the loop of an update, keys met one by one -/
theorem upd_keys {I p : Addr} {fp wr : List Addr} {G : Array GenState → Array GenState → Prop} {n : Nat} {Pv : Nat → Value → Prop} {St : Nat → Shared → Prop} {R : Result → Shared → Prop} {ks : List Key} (W : WalksS P w A.in1 I fp wr G n Pv St) (hp : p ∉ fp) (hn : n = ks.length) (hb : ks.length + 1 < scanBound)
    (hv : ∀ i v, Pv i v → ∃ k, ks[i]? = some k ∧ (mixKind P w).is k v = true ∧ v.scannable = true) : ∀ (m i : Nat) (s : Shared), i + m = n → St i s → setHas P w s.heap p (ks.take i) → (∀ s', Moved (p :: wr) G s s' → setHas P w s'.heap p ks → R (.ok (.ret .none)) s') →
      codeAny (model P w) A (.builtin "set.update.loop" ⟨[.ref p, .ref I], []⟩) R s := by
  have pw : p ∉ wr := fun h => hp (W.sub _ h)
  have up : ∀ {b}, b ∈ wr → b ∈ p :: wr := fun h => List.mem_cons_of_mem _ h
  intro m
  induction m with
  | zero =>
    intro i s hm st hS hR
    have ei : i = n := by omega
    subst ei
    rw [List.take_of_length_le (by omega)] at hS
    refine codeAny_builtin F.entry_set_update_loop ?_
    rw [Around.under_plainId F.plain_set_update_loop _]
    exact wpAny_bind (W.done s _ _ st fun s' hmv => wpAny_pure (hR s' (hmv.mono fun _ h => up h) (setOf_at hS fun o e => hmv.heap p o pw e)))
  | succ m ih =>
    intro i s hm st hS hR
    have hi : i < n := by omega
    refine codeAny_builtin F.entry_set_update_loop ?_
    rw [Around.under_plainId F.plain_set_update_loop _]
    refine wpAny_bind (W.item i s _ _ hi st fun v s' hP st' hmv => ?_)
    obtain ⟨z, hz, key, sc⟩ := hv i v hP
    have hS' : setHas P w s'.heap p (ks.take i) := setOf_at hS fun o e => hmv.heap p o pw e
    have hl := seen_len (ks.take i) []
    rw [List.length_take, List.length_nil] at hl
    show wpAny _ A.in1 (holding [v] (setAdd p v) >>= _) _ _ s'
    refine wpAny_bind (wpAny_holding ?_)
    unfold setAdd
    refine wpAny_holding (wpAny_bind ((mixKind P w).pyHash key (wpAny_setAddHashed_of (s := { s' with toks := s'.toks + 1 }) key sc hS' (by omega) fun h' sb hS2 => ?_)))
    have frame : ∀ b o, b ≠ p → s'.heap.get? b = some o → h'.get? b = some o := fun b o hb e => by rw [sb.2 b hb]; exact e
    refine wpAny_pure ⟨plainId_quiet F.plain_set_update_loop _, ih (i + 1) _ (by omega) (W.frame _ s' _ _ st' (Nat.le_succ _) fun b hb o e => frame b o (fun q => hp (q ▸ hb)) e) (setHas.next hz hS2) fun s'' hmv' hS3 => hR s'' (Moved.trans W.gtrans ((hmv.mono fun _ h => up h).then_heap (Nat.le_succ _) fun b o hb e => frame b o (fun q => hb (by rw [q]; exact List.mem_cons_self)) e) hmv') hS3⟩
/-- set(t), t a tuple of ints and texts -/
theorem call_setK {l : Addr} {items : Array Value} {ks : List Key} {Q : Value → Shared → Prop} (hh : A.handled = none) (hl : s.heap.IsTuple l items) (hn : items.size = ks.length) (hb : ks.length + 1 < scanBound)
    (hv : ∀ (i : Nat) (v : Value), items[i]? = some v → ∃ k, ks[i]? = some k ∧ (mixKind P w).is k v = true ∧ v.scannable = true)
    (h : ∀ (h' : Heap) (tk : Nat), setHas P w h' s.heap.objs.size ks → (∀ b o, s.heap.get? b = some o → h'.get? b = some o) → Q (.ref s.heap.objs.size) { s with heap := h', toks := tk }) : wpAny (model P w) A (call (.type "set") [.ref l]) Q E s := by
  obtain ⟨c, tl, hmro⟩ := F.called_set.mro
  have f1 := F.called_set.made
  have f2 := F.called_set.sub
  have f3 := F.called_set.notType
  have f4 := F.called_set.canCreate
  have f5 := F.typeCall_set_1 (.ref l)
  refine wpAny_call (codeAny_of_tree ?_)
  show wpAny _ _ (callAny (.type "set") _) _ _ _
  refine wpAny_pure ⟨Code.quiet_builtin _ (by decide +kernel), codeAny_builtin F.entry_type_call ?_⟩
  rw [Around.under_plain (weight_type_call_type "set" [.ref l] []) rfl]
  repeat (any_goals (first | assumption | wp_step))
  refine codeAny_mono (code_set_led1 (.ref l) (E := E) (Q₁ := fun obj s₁ => obj = .ref s.heap.objs.size ∧ s₁ = { s with heap := s.heap.push { cls := .type "set", dict := none, data := .set #[] 0 (.fresh 0 0 (!w.params.followText "set-order")) } }) ⟨rfl, rfl⟩) fun r s₁ hr => ?_
  cases r with
  | error e => exact hr
  | ok fl =>
    cases fl with
    | next => exact hr.elim
    | brk => exact hr.elim
    | cont => exact hr.elim
    | ret obj =>
      obtain ⟨rfl, rfl⟩ := hr
      have at0 := Heap.get?_push_size s.heap (o := { cls := .type "set", dict := none, data := .set #[] 0 (.fresh 0 0 (!w.params.followText "set-order")) }) rfl
      have hT : Shared.TypeIs { s with heap := s.heap.push { cls := .type "set", dict := none, data := .set #[] 0 (.fresh 0 0 (!w.params.followText "set-order")) } } (.ref s.heap.objs.size) "set" := ⟨_, at0, rfl⟩
      have hli := F.called_set.init.lookup
      have hbi := F.called_set.init.bind (.ref s.heap.objs.size)
      repeat (any_goals (first | assumption | wp_step))
      refine codeAny_mono (codeAny_call_builtin (R := wants (fun r s₂ => r = .none ∧ ∃ h' tk, s₂ = { s with heap := h', toks := tk } ∧ setHas P w h' s.heap.objs.size ks ∧ ∀ b o, s.heap.get? b = some o → h'.get? b = some o) E) F.called_set.init.plain F.entry_set_init (check_set_init_1 hT ?_)) fun r₂ s₂ hr₂ => ?_
      · have hl1 := hl.push { cls := .type "set", dict := none, data := .set #[] 0 (.fresh 0 0 (!w.params.followText "set-order")) }
        obtain ⟨ol, hol, hcl, nl, hdl⟩ := hl
        have hlt : l < s.heap.objs.size := Heap.lt_size hol
        obtain ⟨ocls, odict, odata, oslots⟩ := ol
        simp only at hcl hdl
        subst hcl; subst hdl
        have hol' : (s.heap.push { cls := .type "set", dict := none, data := .set #[] 0 (.fresh 0 0 (!w.params.followText "set-order")) }).get? l = some { cls := .type "tuple", dict := odict, data := .seq items nl, slots := oslots } := Heap.get?_push_of_some _ hol
        have q1 := F.sub_tuple_set
        have q2 := F.sub_tuple_frozenset
        have q3 : (Value.type "tuple" == Value.type "dict") = false := by decide
        unfold Builtin.«set.__init__» noKeywords Builtin.Frozenset.updateFrom
        generalize hPI : pyIter = PI
        wp_walk
        subst hPI
        refine wpAny_pyIter_tuple hl1 (wpAny_bind (wpAny_runValue ?_))
        have z : (s.heap.push { cls := .type "set", dict := none, data := .set #[] 0 (.fresh 0 0 (!w.params.followText "set-order")) }).objs.size = s.heap.objs.size + 1 := Heap.size_push ..
        have n1 : l ≠ (s.heap.push { cls := .type "set", dict := none, data := .set #[] 0 (.fresh 0 0 (!w.params.followText "set-order")) }).objs.size := by rw [z]; exact Nat.ne_of_lt (Nat.lt_succ_of_lt hlt)
        have n2 : s.heap.objs.size ∉ [(s.heap.push { cls := .type "set", dict := none, data := .set #[] 0 (.fresh 0 0 (!w.params.followText "set-order")) }).objs.size, l] := by
          rw [z]
          simp only [List.mem_cons, List.not_mem_nil, or_false, not_or]
          exact ⟨Nat.ne_of_lt (Nat.lt_succ_self _), Nat.ne_of_gt hlt⟩
        refine upd_keys ((Walks.tuple (by simp [hh]) _ l n1 items).toS) n2 hn hb hv items.size 0 _ (by omega) ⟨⟨_, Heap.get?_push_size _ rfl, rfl, rfl⟩, hl1.push _⟩ ?_ fun s' hm hS => ?_
        · exact ⟨_, #[], 0, _, Heap.get?_push_of_some _ at0, ⟨rfl, rfl, rfl⟩, rfl, (fun e he => by simp at he), (fun k => by simp [seenK, hasK]), (by decide), (by rfl), rfl⟩
        · obtain ⟨h', g2, d', tk', os'⟩ := s'
          have eg : g2 = s.gens := hm.gens
          have ed : d' = s.drawn := hm.drawn
          have eo : os' = s.os := hm.os
          subst eg; subst ed; subst eo
          show wpAny _ _ _ _ _ _
          refine wpAny_pure ?_
          show wpAny _ _ (ret Value.none) _ _ _
          refine wpAny_pure ⟨rfl, h', tk', rfl, hS, fun b o e => ?_⟩
          have hb0 : b < s.heap.objs.size := Heap.lt_size e
          refine hm.heap b o ?_ (Heap.get?_push_of_some _ (Heap.get?_push_of_some _ e))
          rw [z]
          simp only [List.mem_cons, List.not_mem_nil, or_false, not_or]
          exact ⟨Nat.ne_of_lt hb0, Nat.ne_of_lt (Nat.lt_succ_of_lt hb0)⟩
      · cases r₂ with
        | error e => exact hr₂
        | ok fl₂ =>
          cases fl₂ with
          | ret r =>
            obtain ⟨rfl, h', tk, rfl, hS', hk'⟩ := hr₂
            repeat (any_goals (first | assumption | wp_step))
            exact h _ _ hS' hk'
          | _ => exact hr₂.elim
end

section
variable [Wd] {X : Cx} {W : WX} {a : Expr} {Fa : FE} {p p2 pos pos2 : Pos}
theorem atoms_kV {K : PySem.W.Frag} {own : Addr → Prop} {mu : List Addr} {H : Hp} : ∀ {ds : List D} {vs : List V} {ks : List Key}, RVs K own mu H vs ds → atomKs ds = some ks → vs = ks.map kV
  | [], _, _, r, h => by cases r; cases h; rfl
  | d :: ds, _, ks, r, h => by
    cases r with
    | cons r1 r2 =>
      unfold atomKs at h
      split at h
      · rename_i k ks' e1 e2
        cases h
        have e := kOf_dOf e1
        subst e
        rw [List.map_cons, ← atoms_kV r2 e2, r1.key]
      · cases h
theorem call_setD (hc : X.calm = true) : CallR X (.type "set") (fun xs H Q => ∃ b ks, xs = [.ref b] ∧ SqT X.K H b (ks.map kV) ∧ ks.length < 64 ∧ ∀ q, H q = none → Q (.ref q) (upd H q (SetK X.prog X.w q (hasK (seenK [] ks)) (seenK [] ks).length))) := by
  intro pins s σ H xs us Q I r ⟨b, ks, e, hq, hl, q⟩
  subst e
  obtain ⟨u, rfl, ru⟩ := vals1 r
  cases ru
  obtain ⟨its, rv, pl, _⟩ := I.tuple hq
  refine call_setK (ks := ks) (I.ok.hd hc) pl (by rw [List.size_toArray, ← rv.length, List.length_map]) (by unfold scanBound; omega) (fun i v hi => ?_) fun h' tk hS keep => ?_
  · rw [List.getElem?_toArray] at hi
    have hi2 : i < its.length := (List.getElem?_eq_some_iff.mp hi).1
    have hik : i < ks.length := by have := rv.length; rw [List.length_map] at this; omega
    obtain ⟨u', h1, h2⟩ := rv.get (i := i) (x := kV ks[i]) (by rw [List.getElem?_map, List.getElem?_eq_getElem hik]; rfl)
    rw [hi] at h1
    cases h1
    exact ⟨ks[i], List.getElem?_eq_getElem hik, kV_is h2, key_scan h2⟩
  · exact ⟨.ref s.heap.objs.size, upd H s.heap.objs.size (SetK X.prog X.w s.heap.objs.size (hasK (seenK [] ks)) (seenK [] ks).length), I.laid (t' := tk) keep (Nat.le_refl _) (setK_new hS), rfl, q _ (I.hok.fresh (Nat.le_refl _))⟩
theorem call_lenS : CallR X (.builtin "len") (fun xs H Q => ∃ b S n, xs = [.ref b] ∧ H b = some (SetK X.prog X.w b S n) ∧ n < 64 ∧ Q (.int n) H) := by
  intro pins s σ H xs us Q I r ⟨b, S, n, e, hb, hn, q⟩
  subst e
  obtain ⟨u, rfl, ru⟩ := vals1 r
  cases ru
  obtain ⟨o, es, ep, t, a1, a2, a3, a4, a5, a6, a7, a8⟩ := setK_get I hb
  have hfit : (es.size : Int) < 2 ^ 63 := by omega
  refine call_len_set a1 a2 a3 a7 hfit ⟨.int n, H, I.tok _, ⟨_, by rw [a8]⟩, q⟩
theorem s_slen (hc : X.calm = true) (hg : Gl X "len") (hm : X.mg "len" = none) (hg2 : Gl X "set") (hm2 : X.mg "set" = none) (ha : PE X a (tE X.K W Fa)) (h0 : starEach [a] X.env = (false, eval a X.env) :: starEach [] X.env) :
    PE X (.Call (.Name "len" p) [.Call (.Name "set" p2) [a] [] pos2] [] pos) (tE X.K W fun ρ => do
      let x ← Fa ρ
      slenM x) := by
  have h1 := pe_callTy (pos := pos2) (p := p2) (call_setD hc) hg2 hm2 (by decide +kernel) (pa_cons ha pa_nil h0) (by decide) (by decide) h0 rfl
  refine pe_mono (pe_callB call_lenS hg hm (by decide +kernel) (pa_cons h1 pa_nil rfl) (by decide) (by decide) rfl rfl) fun σ H Q ⟨mu, g, ρ, S, R, h⟩ => ⟨mu, g, ρ, S, R, (Wp.bd h).mono fun mu1 g1 H1 d e1 S1 h1 v r => ?_⟩
  unfold slenM at h1
  split at h1
  · rename_i xs
    split at h1
    · rename_i ks hk
      split at h1
      · rename_i hl
        obtain ⟨b, vs, rfl, hq, rs⟩ := r.tup_inv
        have e := atoms_kV rs hk
        subst e
        refine ⟨b, ks, rfl, hq.seq, hl, fun q hq' => ⟨q, _, _, rfl, upd_same, ?_, Wp.here (S1.new hq') (Wp.ext (Ext.new hq') h1) _ (.int _)⟩⟩
        have := seen_len ks []
        simp only [List.length_nil] at this
        omega
      · exact h1.elim
    · exact h1.elim
  · exact h1.elim
end
end DL

set_option Elab.async false
set_option linter.all false
set_option maxRecDepth 100000
set_option maxHeartbeats 4000000
/-! the deep layer: the checker, what it sees of the text -/
namespace DL
open PySem PySem.Spec PyProof.Rows L2

/-! ### looks at the text -/
def visB (sc : Scope) (x : Str) : Bool := match sc.names.lookup x with
  | some .local => true
  | some .cell => true
  | some .free => true
  | _ => false
def locB (S : SC) (x : Str) : Bool := match S.sc.names.lookup x with
  | some .local => true
  | some .cell => S.fn x
  | _ => false
def glB (sc : Scope) (x : Str) : Bool := match sc.names.lookup x with
  | some .globalImplicit => true
  | _ => false
def nmB (x : Str) : Bool := !(x == ("__debug__" : Str)) && !(x == ("__classdict__" : Str))
def ixB : Expr → Bool
  | .Slice .. => false
  | _ => true
def abB : Expr → Bool
  | .Call (.Name id _) [] [] _ => id != ("super" : Str)
  | .Call (.Attribute ..) [] [] _ => true
  | .Call _ [] [] _ => false
  | _ => true
def setB : Expr → Bool
  | .Set .. => true
  | _ => false
def starB : Expr → Bool
  | .Starred .. => true
  | _ => false
def compB : Expr → Bool
  | .ListComp .. => true
  | .SetComp .. => true
  | .DictComp .. => true
  | _ => false
section
variable {cf : Cf} {S : SC} {X : Cx} {W : WX} {x : Str} {a e : Expr} {es : List Expr}
theorem ba {a b : Bool} (h : (a && b) = true) : a = true ∧ b = true := Bool.and_eq_true_iff.mp h
theorem vis_ok [Wd] (c : CtxOk cf S X W) (h : visB S.sc x = true) : Vis X.env.scope x := by
  unfold visB at h
  rw [c.sc]
  split at h
  · exact .inl (by assumption)
  · exact .inr (.inl (by assumption))
  · exact .inr (.inr (by assumption))
  · cases h
theorem loc_ok [Wd] (c : CtxOk cf S X W) (h : locB S x = true) : Loc X.env.scope x ∧ (X.fn x = true ∨ X.env.scope.names.lookup x = some .local) := by
  unfold locB at h
  rw [c.sc]
  split at h
  · rename_i e
    exact ⟨.inl e, .inr e⟩
  · rename_i e
    exact ⟨.inr e, .inl (c.fn x h)⟩
  · cases h
theorem gl_ok [Wd] (c : CtxOk cf S X W) (h : glB S.sc x = true) : Gl X x := by
  unfold glB at h
  show X.env.scope.names.lookup x = _
  rw [c.sc]
  split at h
  · assumption
  · cases h
theorem nm_ok (h : nmB x = true) : (x == ("__debug__" : Str)) = false ∧ (x == ("__classdict__" : Str)) = false := by
  obtain ⟨h1, h2⟩ := ba h
  exact ⟨Bool.not_eq_true' _ |>.mp h1, Bool.not_eq_true' _ |>.mp h2⟩
theorem ix_plain (h : ixB e = true) : PlainIx e := fun _ _ => by cases e <;> first | rfl | cases h
theorem ab_ok {f : Str} {env : Env} {whole : Sem Value} (h : abB e = true) : attributeBase e f env whole = whole := by
  cases e with
  | Call g args kws p =>
    cases args with
    | nil =>
      cases kws with
      | nil =>
        cases g with
        | Name id q => exact abase_call h
        | Attribute _ _ _ => rfl
        | _ => cases h
      | cons _ _ => cases g <;> rfl
    | cons _ _ => cases g <;> rfl
  | _ => rfl
theorem set_no {op : CmpOp} (h : setB e = false) : behindInMarks op e = false := by cases e <;> first | rfl | cases h
theorem fold_no {env : Env} (h : setB e = false) (v : Value) : foldedSetIterable e env v = pure v := by cases e <;> first | rfl | cases h
theorem star_cons {env : Env} (h : starB a = false) : starEach (a :: es) env = (false, eval a env) :: starEach es env := by cases a <;> first | rfl | cases h
theorem asg_cons {env : Env} (h : starB a = false) : assignEach (a :: es) env = (false, assign a env) :: assignEach es env := by cases a <;> first | rfl | cases h
theorem star_all {env : Env} : ∀ {es : List Expr}, es.all (fun e => !starB e) = true → ∀ pos, (backTo pos (starEach es env)).all (fun x => !x.1) = true
  | [], _, _ => rfl
  | a :: es, h, pos => by
    obtain ⟨h1, h2⟩ := ba h
    rw [star_cons (Bool.not_eq_true' _ |>.mp h1)]
    exact star_all h2 pos
theorem star_any {env : Env} {es : List Expr} (h : es.all (fun e => !starB e) = true) (pos : Pos) : (backTo pos (starEach es env)).any (·.1) = false := by
  have := star_all (env := env) h pos
  rw [List.all_eq_not_any_not] at this
  simpa using this
theorem asg_all {env : Env} : ∀ {es : List Expr}, es.all (fun e => !starB e) = true → (assignEach es env).length = es.length ∧ (assignEach es env).findIdx? (·.1) = none
  | [], _ => ⟨rfl, rfl⟩
  | a :: es, h => by
    obtain ⟨h1, h2⟩ := ba h
    rw [asg_cons (Bool.not_eq_true' _ |>.mp h1)]
    obtain ⟨q1, q2⟩ := asg_all (env := env) h2
    refine ⟨by simp [q1], ?_⟩
    rw [List.findIdx?_cons]
    simp [q2]
theorem swap_no {t : Option Expr} {l : Nat} {env : Env} (h : compB e = false) : swapsWith e t l env = pure false := by cases e <;> first | rfl | cases h
/-- what a comparison's test says -/
theorem isTrue_def {env : Env} (h : (match e with | .UnaryOp .Not .. => false | .BoolOp .. => false | .IfExp .. => false | .Compare .. => false | _ => true) = true) (whole : Sem Value) : isTrue e env whole = (do let v ← whole; standAt e.pos; holding [v] (truthy v)) := by
  cases e with
  | UnaryOp op _ _ => cases op <;> first | rfl | cases h
  | _ => first | rfl | cases h
end

/-! ### stores that are swapped -/
def swNames (sc : Scope) (line : Nat) (ts : List Expr) : List Str := ts.filterMap fun
  | .Name id pos => if sc.names.lookup id == some .local && pos.line == line then some id else none
  | _ => none
/-- none: not swapped; some: these names -/
def swB (sc : Scope) (ts vs : List Expr) : Option (Option (List Str)) :=
  if !(ts.length == 2 || ts.length == 3) || vs.length != ts.length then some none
  else if vs.any starB then some none
  else
    let names := swNames sc ((ts.head?.map (·.pos.line)).getD 0) ts
    if names.length != ts.length || names.eraseDups.length != names.length then some none
    else if vs.all (foldedForSure 8) then some none
    else if vs.all (constantsAlone 8) then none
    else some (some names)
theorem swap_eq {ts vs : List Expr} {k k2 : Nat} {p p2 : Pos} {env : Env} : swappedStores [.Tuple ts k p] (.Tuple vs k2 p2) env =
    if ((!(ts.length == 2 || ts.length == 3) || vs.length != ts.length) || env.blockKind != .function) = true then pure none
    else if vs.any starB = true then pure none
    else if ((swNames env.scope ((ts.head?.map (·.pos.line)).getD 0) ts).length != ts.length || (swNames env.scope ((ts.head?.map (·.pos.line)).getD 0) ts).eraseDups.length != (swNames env.scope ((ts.head?.map (·.pos.line)).getD 0) ts).length) = true then pure none
    else if vs.all (foldedForSure 8) = true then pure none
    else if vs.all (constantsAlone 8) = true then (do
      let _ ← (unsupported "assign.tuple-of-constant-expressions:order-of-the-stores" : Sem PUnit)
      pure (some (swNames env.scope ((ts.head?.map (·.pos.line)).getD 0) ts)))
    else pure (some (swNames env.scope ((ts.head?.map (·.pos.line)).getD 0) ts)) := rfl
theorem swap_tup {ts vs : List Expr} {k k2 : Nat} {p p2 : Pos} {env : Env} {sc : Scope} {r : Option (List Str)} (hsc : env.scope = sc) (hk : env.scope.kind = .function) (h : swB sc ts vs = some r) : swappedStores [.Tuple ts k p] (.Tuple vs k2 p2) env = pure r := by
  have hb : env.blockKind = .function := by unfold Env.blockKind; rw [hk]; rfl
  rw [swap_eq, hb, hsc]
  unfold swB at h
  by_cases c1 : (!(ts.length == 2 || ts.length == 3) || vs.length != ts.length) = true
  · rw [if_pos c1] at h
    cases h
    rw [if_pos (by rw [c1]; rfl)]
  · rw [if_neg c1] at h
    have c1' : (!(ts.length == 2 || ts.length == 3) || vs.length != ts.length) = false := by simpa using c1
    rw [if_neg (by rw [c1']; decide)]
    by_cases c2 : vs.any starB = true
    · rw [if_pos c2] at h
      cases h
      rw [if_pos c2]
    · rw [if_neg c2] at h
      rw [if_neg c2]
      simp only at h
      generalize swNames sc ((ts.head?.map (·.pos.line)).getD 0) ts = names at h ⊢
      by_cases c3 : (names.length != ts.length || names.eraseDups.length != names.length) = true
      · rw [if_pos c3] at h
        cases h
        rw [if_pos c3]
      · rw [if_neg c3] at h
        rw [if_neg c3]
        by_cases c4 : vs.all (foldedForSure 8) = true
        · rw [if_pos c4] at h
          cases h
          rw [if_pos c4]
        · rw [if_neg c4] at h
          rw [if_neg c4]
          by_cases c5 : vs.all (constantsAlone 8) = true
          · rw [if_pos c5] at h
            cases h
          · rw [if_neg c5] at h
            cases h
            rw [if_neg c5]
/-- no swapping of stores -/
def noSwB (sc : Scope) (tg a : Expr) : Bool := match tg, a with
  | .Tuple ts _ _, .Tuple vs _ _ => match swB sc ts vs with
    | some none => true
    | _ => false
  | .List .., _ => false
  | _, _ => true
theorem noSw_ok {tg a : Expr} {env : Env} {sc : Scope} (hsc : env.scope = sc) (hk : env.scope.kind = .function) (h : noSwB sc tg a = true) : swappedStores [tg] a env = pure none := by
  unfold noSwB at h
  split at h
  · split at h
    · exact swap_tup hsc hk (by assumption)
    · cases h
  · cases h
  · rename_i h1 h2
    cases tg with
    | Tuple ts k p =>
      cases a with
      | Tuple vs k2 p2 => exact (h2 _ _ _ _ _ _ rfl rfl).elim
      | _ => rfl
    | List ts p => exact (h1 _ _ rfl).elim
    | _ => cases a <;> rfl
end DL

set_option Elab.async false
set_option linter.all false
set_option maxRecDepth 100000
set_option maxHeartbeats 4000000
/-! the deep layer: the checker -/
namespace DL
open PySem PySem.Spec PyProof.Rows L2

def tyN' : Ty → Str
  | .bool => "bool" | .int => "int" | .str => "str" | .tuple => "tuple" | .list => "list" | .dict => "dict"
def biN : Bi → Str
  | .len => "len" | .tuple => "tuple" | .list _ => "list" | .min2 => "min" | .max2 => "max" | .abs => "abs" | .all => "all" | .any => "any" | .sum => "sum" | .sortI _ => "sorted" | .strI => "str" | .dict _ => "dict"
def mtN : Mt → Str
  | .append => "append" | .get => "get" | .join => "join" | .pop => "pop" | .split _ => "split" | .upper => "upper" | .extend => "extend" | .clear => "clear" | .count => "count"
/-- a built-in name -/
def bltB (S : SC) (x y : Str) : Bool := decide (x = y) && glB S.sc x && S.free.contains x
def tysB (S : SC) : List Ty → List Expr → Bool
  | [], [] => true
  | t :: ts, .Name x _ :: es => bltB S x (tyN' t) && tysB S ts es
  | _, _ => false
/-- names of own classes -/
def clssB (S : SC) : List Str → List Expr → Bool
  | [], [] => true
  | t :: ts, .Name x _ :: es => (decide (t = x) && (bltB S x "ValueError" || (!decide (x = "ValueError") && ((glB S.sc x && nmB x) && S.cls.contains x)))) && clssB S ts es
  | _, _ => false
def ownP (S : SC) (own : List Nat) : List (Str × Nat) := own.map fun i => (S.N.getD i "", i)
mutual
def tgV : Tg → List Nat
  | .v i => [i]
  | .tup ts => tgsV ts
  | _ => []
def tgsV : Tgs → List Nat
  | .nil => []
  | .cons t ts => tgV t ++ tgsV ts
end
mutual
def okE (S : SC) : E → Expr → Bool
  | .v i, ex => (match ex with
    | .Name x _ => decide (S.N[i]? = some x) && (visB S.sc x && nmB x)
    | _ => false)
  | .non, ex => (match ex with
    | .Constant .none _ _ => true
    | _ => false)
  | .bl b, ex => (match ex with
    | .Constant (.bool c) _ _ => b == c
    | _ => false)
  | .int i, ex => (match ex with
    | .Constant (.int j) _ _ => decide (i = j)
    | _ => false)
  | .str x, ex => (match ex with
    | .Constant (.str y) _ _ => decide (x = y)
    | _ => false)
  | .gl x, ex => (match ex with
    | .Name y _ => decide (x = y) && (glB S.sc y && nmB y)
    | _ => false)
  | .tup es, ex => (match ex with
    | .Tuple xs _ _ => okEs S es xs
    | _ => false)
  | .lst _ es, ex => (match ex with
    | .List xs _ => okEs S es xs
    | _ => false)
  | .dct _ ps, ex => (match ex with
    | .Dict ks vs _ => okPs S ps ks vs && decide (ks.length ≤ 15)
    | _ => false)
  | .bin op a b, ex => (match ex with
    | .BinOp x o y _ => decide (o = pyOp op) && (okE S a x && okE S b y)
    | _ => false)
  | .neg a, ex => (match ex with
    | .UnaryOp .USub x _ => okE S a x
    | _ => false)
  | .not a, ex => (match ex with
    | .UnaryOp .Not x _ => okE S a x
    | _ => false)
  | .and es, ex => (match ex with
    | .BoolOp .And xs _ => okEs S es xs && !xs.isEmpty
    | _ => false)
  | .or es, ex => (match ex with
    | .BoolOp .Or xs _ => okEs S es xs && !xs.isEmpty
    | _ => false)
  | .cmp op a b, ex => (match ex with
    | .Compare x [o] [y] _ => decide (o = pyCp op) && (!setB y && (okE S a x && okE S b y))
    | _ => false)
  | .cmp2 op op' a b c, ex => (match ex with
    | .Compare x [o, o'] [y, z] _ => (decide (o = pyCp op) && decide (o' = pyCp op')) && (!setB z && (okE S a x && (okE S b y && okE S c z)))
    | _ => false)
  | .isn a, ex => (match ex with
    | .Compare x [.Is] [.Constant .none _ _] _ => okE S a x
    | _ => false)
  | .notn a, ex => (match ex with
    | .Compare x [.IsNot] [.Constant .none _ _] _ => okE S a x
    | _ => false)
  | .ite c a b, ex => (match ex with
    | .IfExp t x y _ => okE S c t && (okE S a x && okE S b y)
    | _ => false)
  | .ix a b, ex => (match ex with
    | .Subscript x y _ => ixB y && (okE S a x && okE S b y)
    | _ => false)
  | .sl a lo hi, ex => (match ex with
    | .Subscript x (.Slice l h none _) _ => okE S a x && (okPart S lo l && okPart S hi h)
    | _ => false)
  | .fld a f, ex => (match ex with
    | .Attribute x g _ => decide (f = g) && (abB x && okE S a x)
    | _ => false)
  | .call f es, ex => (match ex with
    | .Call (.Name x _) xs [] _ => decide (f = x) && ((glB S.sc x && nmB x) && (S.calm && (okEs S es xs && S.ok x es.len)))
    | _ => false)
  | .callv i es, ex => (match ex with
    | .Call (.Name x _) (y :: xs) [] _ => S.calm && (decide (S.N[i]? = some x) && ((visB S.sc x && nmB x) && okEs S es (y :: xs)))
    | _ => false)
  | .mk _ C es, ex => (match ex with
    | .Call (.Name x _) xs [] _ => decide (C = x) && ((glB S.sc x && nmB x) && (S.calm && (okEs S es xs && S.mks.contains x)))
    | _ => false)
  | .own m o es, ex => (match ex with
    | .Call (.Attribute x f apos) xs [] cpos => S.calm && (decide (f = m) && ((abB x && apos.endLine == cpos.line) && (decide (xs.length < 29) && (okE S o x && okEs S es xs))))
    | _ => false)
  | .isc a cs many, ex => (match ex with
    | .Call (.Name x _) [y, t] [] _ => bltB S x "isinstance" && (!starB y && (okE S a y && (match many, t with
    | false, _ => !starB t && clssB S cs [t]
    | true, .Tuple tes _ _ => clssB S cs tes && (!cs.isEmpty && decide (cs.length ≤ 30))
    | true, _ => false)))
    | _ => false)
  | .slen a, ex => (match ex with
    | .Call (.Name x _) [.Call (.Name y _) [z] [] _] [] _ => S.calm && ((bltB S x "len" && bltB S y "set") && (!starB z && okE S a z))
    | _ => false)
  | .bi b es, ex => (match ex with
    | .Call (.Name x _) (y :: xs) [] _ => S.calm && (bltB S x (biN b) && okEs S es (y :: xs))
    | _ => false)
  | .mt m o es, ex => (match ex with
    | .Call (.Attribute x f apos) xs [] cpos => decide (f = mtN m) && ((abB x && apos.endLine == cpos.line) && (decide (xs.length < 29) && (okE S o x && okEs S es xs)))
    | _ => false)
  | .isi a ts many, ex => (match ex with
    | .Call (.Name x _) [y, t] [] _ => bltB S x "isinstance" && (!starB y && (okE S a y && (match many, t with
    | false, _ => !starB t && tysB S ts [t]
    | true, .Tuple tes _ _ => tysB S ts tes && (!ts.isEmpty && decide (ts.length ≤ 30))
    | true, _ => false)))
    | _ => false)
  | .lc _ own elt t it ifs, ex => (match ex with
    | .ListComp x [⟨tg, iter, fs, 0⟩] scope _ => S.calm && ((okI S it tg iter && !setB iter) && ((blkC S.N S.sc scope (ownP S own) && decide (scope.kind = .function)) &&
      ((okTg (S.blk scope) t tg && (tgV t).all fun i => own.contains i) && (okIfs (S.blk scope) ifs fs && okE (S.blk scope) elt x))))
    | _ => false)
  | .kget o es, ex => (match ex with
    | .Call (.Attribute x f apos) (y :: xs) [] cpos => decide (f = ("get" : Str)) && ((abB x && apos.endLine == cpos.line) && (decide (xs.length < 28) && (okE S o x && okEs S es (y :: xs))))
    | _ => false)
  | .bad, _ => true
  | .rev a, ex => (match ex with
    | .Subscript x (.Slice none none (some (.UnaryOp .USub (.Constant (.int j) _ _) _)) _) _ => decide (j = 1) && okE S a x
    | _ => false)
  | .deq a b, ex => (match ex with
    | .Compare x [o] [y] _ => decide (o = CmpOp.Eq) && (!setB y && (okE S a x && okE S b y))
    | _ => false)
  | .rep _ a b, ex => (match ex with
    | .BinOp x o y _ => decide (o = Operator.Mult) && (okE S a x && okE S b y)
    | _ => false)
  | _, _ => false
def okEs (S : SC) : Es → List Expr → Bool
  | .nil, [] => true
  | .cons e es, x :: xs => !starB x && (okE S e x && okEs S es xs)
  | _, _ => false
def okIfs (S : SC) : Es → List Expr → Bool
  | .nil, [] => true
  | .cons e .nil, [x] => okE S e x
  | _, _ => false
def okPart (S : SC) : Es → Option Expr → Bool
  | .nil, none => true
  | .cons e .nil, some x => okE S e x
  | _, _ => false
def okPs (S : SC) : Ps → List (Option Expr) → List Expr → Bool
  | .nil, [], [] => true
  | .cons k v ps, some x :: xs, y :: ys => okE S k x && (okE S v y && okPs S ps xs ys)
  | _, _, _ => false
def okTg (S : SC) : Tg → Expr → Bool
  | .v i, ex => (match ex with
    | .Name x _ => decide (S.N[i]? = some x) && locB S x
    | _ => false)
  | .tup ts, ex => (match ex with
    | .Tuple xs _ _ => S.calm && okTgs S ts xs
    | _ => false)
  | .ix a b, ex => (match ex with
    | .Subscript x y _ => ixB y && (okE S a x && okE S b y)
    | _ => false)
  | _, _ => false
def okTgs (S : SC) : Tgs → List Expr → Bool
  | .nil, [] => true
  | .cons t ts, x :: xs => !starB x && (okTg S t x && okTgs S ts xs)
  | _, _ => false
def okI (S : SC) : I → Expr → Expr → Bool
  | .e a, _, x => okE S a x
  | .rng1 a, _, ex => (match ex with
    | .Call (.Name x _) [y] [] _ => bltB S x "range" && (!starB y && okE S a y)
    | _ => false)
  | .rng2 a b, _, ex => (match ex with
    | .Call (.Name x _) [y, z] [] _ => bltB S x "range" && ((!starB y && !starB z) && (okE S a y && okE S b z))
    | _ => false)
  | .enum a, tg, ex => (match tg, ex with
    | .Tuple .., .Call (.Name x _) [y] [] _ => bltB S x "enumerate" && (!starB y && okE S a y)
    | _, _ => false)
  | .zip a b, tg, ex => (match tg, ex with
    | .Tuple .., .Call (.Name x _) [y, z] [] _ => bltB S x "zip" && ((!starB y && !starB z) && (okE S a y && okE S b z))
    | _, _ => false)
  | .items a, tg, ex => (match tg, ex with
    | .Tuple .., .Call (.Attribute x f apos) [] [] cpos => decide (f = "items") && ((abB x && apos.endLine == cpos.line) && okE S a x)
    | _, _ => false)
  | .vals a, _, ex => (match ex with
    | .Call (.Attribute x f apos) [] [] cpos => decide (f = "values") && ((abB x && apos.endLine == cpos.line) && okE S a x)
    | _ => false)
end
def augB : Op2 → Operator → Bool
  | .add, .Add => true
  | .sub, .Sub => true
  | _, _ => false
/-- name = [comprehension], stored within -/
def swLc (S : SC) (x : Str) (py : Pos) (scope : Scope) (pos : Pos) : Bool := (S.sc.names.lookup x == some .local && py.line == pos.line) && !(scope.names.any fun (n, k) => n == x && (k == .local || k == .cell))
def fldB (S : SC) (o : E) (f : Str) (a : E) (ex : Stmt) : Bool := match ex with
  | .Assign [.Attribute x g _] y _ => decide (f = g) && (!compB y && (okE S o x && okE S a y))
  | _ => false
def asgB (S : SC) (t : Tg) (a : E) (ex : Stmt) : Bool := match ex with
  | .Assign [tg] y _ => okTg S t tg && (okE S a y && ((!starB tg && noSwB S.sc tg y) && (match tg, y with
    | .Name x py, .ListComp _ _ scope p => if swLc S x py scope p then (match t, a with
        | .v _, .lc .. => S.sc.names.lookup x == some .local
        | _, _ => false) else true
    | .Name .., y => !compB y
    | _, _ => true)))
    | _ => false
mutual
def okS (S : SC) : DL.S → Stmt → Bool
  | .ex a, ex => (match ex with
    | .Expr x _ => !compB x && okE S a x
    | _ => false)
  | .ret a, ex => (match ex with
    | .Return (some x) _ => okE S a x
    | _ => false)
  | .retn, ex => (match ex with
    | .Return none _ => true
    | _ => false)
  | .asg (.fld o f) a, ex => fldB S o f a ex
  | .asg t a, ex => asgB S t a ex
  | .par is es, ex => (match ex with
    | .Assign [.Tuple ts _ _] (.Tuple vs _ _) _ => S.calm && okEs S es vs && (match is, ts, vs with
    | [i, j], [.Name x px, .Name y py], [_, _] => ((decide (S.N[i]? = some x) && decide (S.N[j]? = some y)) && decide (i ≠ j)) && ((S.sc.names.lookup x == some .local && S.sc.names.lookup y == some .local) && decide (swB S.sc [.Name x px, .Name y py] vs = some (some [x, y])))
    | [i, j, l], [.Name x px, .Name y py, .Name z pz], [_, _, _] => (((decide (S.N[i]? = some x) && decide (S.N[j]? = some y)) && decide (S.N[l]? = some z)) && (decide (i ≠ j) && (decide (i ≠ l) && decide (j ≠ l)))) &&
        ((S.sc.names.lookup x == some .local && (S.sc.names.lookup y == some .local && S.sc.names.lookup z == some .local)) && decide (swB S.sc [.Name x px, .Name y py, .Name z pz] vs = some (some [x, y, z])))
    | _, _, _ => false)
    | _ => false)
  | .augv i op a, ex => (match ex with
    | .AugAssign (.Name x _) o y _ => decide (S.N[i]? = some x) && (locB S x && (augB op o && okE S a y))
    | _ => false)
  | .iff c a b, ex => (match ex with
    | .If x xs ys _ => okE S c x && (okSs S a xs && okSs S b ys)
    | _ => false)
  | .forr t it b, ex => (match ex with
    | .For tg iter xs [] _ => S.calm && (okTg S t tg && (okI S it tg iter && !setB iter)) && okSs S b xs
    | _ => false)
  | .whl c b, ex => (match ex with
    | .While x xs [] _ => okE S c x && okSs S b xs
    | _ => false)
  | .brk, ex => (match ex with
    | .Break _ => true
    | _ => false)
  | .cnt, ex => (match ex with
    | .Continue _ => true
    | _ => false)
  | .pas, ex => (match ex with
    | .Pass _ => true
    | _ => false)
  | .rse C es, ex => (match ex with
    | .Raise (some (.Call (.Name x _) (y :: xs) [] _)) none _ => S.calm && (decide (C = x) && ((glB S.sc x && nmB x) && (okEs S es (y :: xs) && decide (S.exs.lookup x = some []))))
    | _ => false)
  | .tri b hs, ex => (match ex with
    | .Try body hds [] [] _ => S.tr && (okSs S b body && (!hds.isEmpty && okHs S hs hds))
    | _ => false)
  | .bad, _ => true
  | _, _ => false
def okHs (S : SC) : Hs → List ExceptHandler → Bool
  | .nil, [] => true
  | .cons C i ss hs, .ExceptHandler (some (.Name x _)) nm (b₀ :: suite) _ :: rest => (decide (C = x) && ((glB S.sc x && nmB x) && S.cls.contains x)) && ((match nm, i with
    | none, none => true
    | some n, some i => decide (S.N[i]? = some n) && S.sc.names.lookup n == some .local
    | _, _ => false) && (okSs S.suite ss (b₀ :: suite) && okHs S hs rest))
  | _, _ => false
def okSs (S : SC) : Ss → List Stmt → Bool
  | .nil, [] => true
  | .cons (.frz _) ss, xs => okSs S ss xs
  | .cons s ss, x :: xs => okS S s x && okSs S ss xs
  | _, _ => false
end
end DL

set_option Elab.async false
set_option linter.all false
set_option maxRecDepth 100000
set_option maxHeartbeats 4000000
/-! the deep layer: the checker is right: expressions -/
namespace DL
open PySem PySem.Spec PyProof.Rows L2

section
variable {α : Type}
theorem evT_not (cf : Cf) (a : E) : evT cf (.not a) = (fun ρ => do
    let b ← evT cf a ρ
    pure (!b)) := by
  funext ρ g
  simp only [evT, evTM, evE, bind_def]
  cases evE cf a ρ g with
  | ok d g1 =>
    simp only [R.bind, bind_def, rdM]
    cases truD (rd g1 d) <;> rfl
  | _ => rfl
theorem evT_cmp (cf : Cf) (op : Cp) (a b : E) : evT cf (.cmp op a b) = (fun ρ => do
    let x ← evE cf a ρ
    let y ← evE cf b ρ
    let x ← rdM x
    let y ← rdM y
    optM (cmpD op x y)) := by
  funext ρ g
  simp only [evT, evTM, evE, bind_def]
  cases evE cf a ρ g with
  | ok d g1 =>
    simp only [R.bind, bind_def, rdM]
    cases evE cf b ρ g1 with
    | ok e g2 =>
      simp only [R.bind, bind_def, rdM]
      cases cmpD op (rd g2 d) (rd g2 e) <;> rfl
    | _ => rfl
  | _ => rfl
theorem evT_deq (cf : Cf) (a b : E) : evT cf (.deq a b) = (fun ρ => do
    let x ← evE cf a ρ
    let y ← evE cf b ρ
    let x ← rdM x
    let y ← rdM y
    optM (deqD x y)) := by
  funext ρ g
  simp only [evT, evTM, evE, bind_def]
  cases evE cf a ρ g with
  | ok d g1 =>
    simp only [R.bind, bind_def, rdM]
    cases evE cf b ρ g1 with
    | ok e g2 =>
      simp only [R.bind, bind_def, rdM]
      cases deqD (rd g2 d) (rd g2 e) <;> rfl
    | _ => rfl
  | _ => rfl
theorem evT_cmp2 (cf : Cf) (op op' : Cp) (a b c : E) : evT cf (.cmp2 op op' a b c) = (fun ρ => do
    let x ← evE cf a ρ
    let y ← evE cf b ρ
    let x' ← rdM x
    let y' ← rdM y
    let k ← optM (cmpD op x' y')
    if k then do
      let z ← evE cf c ρ
      let y' ← rdM y
      let z' ← rdM z
      optM (cmpD op' y' z')
    else pure false) := by
  funext ρ g
  simp only [evT, evTM, evE, bind_def]
  cases evE cf a ρ g with
  | ok d g1 =>
    simp only [R.bind, bind_def, rdM]
    cases evE cf b ρ g1 with
    | ok e g2 =>
      simp only [R.bind, bind_def, rdM]
      cases cmpD op (rd g2 d) (rd g2 e) with
      | none => rfl
      | some k =>
        cases k with
        | false => rfl
        | true =>
          simp only [optM, pure_def, R.bind, if_true, bind_def]
          cases evE cf c ρ g2 with
          | ok z g3 =>
            simp only [R.bind, bind_def, rdM]
            cases cmpD op' (rd g3 e) (rd g3 z) <;> rfl
          | _ => rfl
    | _ => rfl
  | _ => rfl
theorem evT_isn (cf : Cf) (a : E) : evT cf (.isn a) = (fun ρ => do
    let x ← evE cf a ρ
    match x with
    | .non => pure true
    | _ => pure false) := by
  funext ρ g
  simp only [evT, evTM, evE, bind_def]
  cases evE cf a ρ g with
  | ok d g1 => cases d <;> rfl
  | _ => rfl
theorem evT_notn (cf : Cf) (a : E) : evT cf (.notn a) = (fun ρ => do
    let x ← evE cf a ρ
    match x with
    | .non => pure false
    | _ => pure true) := by
  funext ρ g
  simp only [evT, evTM, evE, bind_def]
  cases evE cf a ρ g with
  | ok d g1 => cases d <;> rfl
  | _ => rfl
theorem evT_ite (cf : Cf) (c a b : E) : evT cf (.ite c a b) = (fun ρ => do
    let k ← evT cf c ρ
    if k then evT cf a ρ else evT cf b ρ) := by
  funext ρ g
  simp only [evT, evTM, evE, bind_def]
  cases evE cf c ρ g with
  | ok d g1 =>
    simp only [R.bind, bind_def, rdM]
    cases truD (rd g1 d) with
    | none => rfl
    | some k => cases k <;> rfl
  | _ => rfl
theorem evE_ite (cf : Cf) (c a b : E) : evE cf (.ite c a b) = (fun ρ => do
    let k ← evT cf c ρ
    if k then evE cf a ρ else evE cf b ρ) := by
  funext ρ g
  simp only [evT, evTM, evE, bind_def]
  cases evE cf c ρ g <;> rfl
theorem evT_and (cf : Cf) (e e2 : E) (es : Es) : evTM (evAnd cf (.cons e (.cons e2 es))) = (fun ρ => do
    let k ← evT cf e ρ
    if k then evTM (evAnd cf (.cons e2 es)) ρ else pure false) := by
  funext ρ g
  have h : evAnd cf (.cons e (.cons e2 es)) ρ = (do
    let x ← evE cf e ρ
    let y ← rdM x
    let b ← optM (truD y)
    if b then evAnd cf (.cons e2 es) ρ else pure x) := by simp only [evAnd]
  simp only [evT, evTM, bind_def, h]
  cases evE cf e ρ g with
  | ok d g1 =>
    simp only [R.bind, bind_def, rdM]
    cases ht : truD (rd g1 d) with
    | none => rfl
    | some k =>
      cases k with
      | true => rfl
      | false => simp only [optM, pure_def, R.bind, Bool.false_eq_true, if_false, bind_def, rdM, ht]
  | _ => rfl
theorem evT_or (cf : Cf) (e e2 : E) (es : Es) : evTM (evOr cf (.cons e (.cons e2 es))) = (fun ρ => do
    let k ← evT cf e ρ
    if k then pure true else evTM (evOr cf (.cons e2 es)) ρ) := by
  funext ρ g
  have h : evOr cf (.cons e (.cons e2 es)) ρ = (do
    let x ← evE cf e ρ
    let y ← rdM x
    let b ← optM (truD y)
    if b then pure x else evOr cf (.cons e2 es) ρ) := by simp only [evOr]
  simp only [evT, evTM, bind_def, h]
  cases evE cf e ρ g with
  | ok d g1 =>
    simp only [R.bind, bind_def, rdM]
    cases ht : truD (rd g1 d) with
    | none => rfl
    | some k =>
      cases k with
      | false => rfl
      | true => simp only [optM, pure_def, R.bind, if_true, bind_def, rdM, ht]
  | _ => rfl
theorem evIfs_one (cf : Cf) (e : E) : evIfs cf (.cons e .nil) = evT cf e := by
  funext ρ g
  simp only [evIfs, evT, evTM, bind_def]
  cases evE cf e ρ g with
  | ok d g1 =>
    simp only [R.bind, bind_def, rdM]
    cases ht : truD (rd g1 d) with
    | none => rfl
    | some k => cases k <;> rfl
  | _ => rfl
theorem evEs_len {cf : Cf} : ∀ {es : Es} {ρ : Env'} {g g' : G} {ds : List D}, evEs cf es ρ g = .ok ds g' → ds.length = es.len
  | .nil, ρ, g, g', ds, h => by
    simp only [evEs, pure_def] at h
    cases h
    rfl
  | .cons e es, ρ, g, g', ds, h => by
    simp only [evEs, bind_def] at h
    cases h1 : evE cf e ρ g with
    | ok d g1 =>
      rw [h1] at h
      simp only [R.bind, bind_def] at h
      cases h2 : evEs cf es ρ g1 with
      | ok ds' g2 =>
        rw [h2] at h
        simp only [R.bind, pure_def] at h
        cases h
        simp only [List.length_cons, Es.len]
        rw [evEs_len h2]
      | _ => rw [h2] at h; cases h
    | _ => rw [h1] at h; cases h
end

variable [Wd]
def OkE (cf : Cf) (e : E) : Prop := ∀ (S : SC) (X : Cx) (W : WX) (ex : Expr), CtxOk cf S X W → okE S e ex = true → PE X ex (tE X.K W (evE cf e)) ∧ PT X ex (tT X.K W (evT cf e))
structure OkEsP (cf : Cf) (es : Es) (S : SC) (X : Cx) (W : WX) : Prop where
  pa : ∀ xs, okEs S es xs = true → PA X xs (tA X.K W (evEs cf es))
  an : ∀ xs pos, okEs S es xs = true → xs ≠ [] → PE X (.BoolOp .And xs pos) (tE X.K W (evAnd cf es)) ∧ PW X (.BoolOp .And xs pos) (tT X.K W (evTM (evAnd cf es)))
  orr : ∀ xs pos, okEs S es xs = true → xs ≠ [] → PE X (.BoolOp .Or xs pos) (tE X.K W (evOr cf es)) ∧ PW X (.BoolOp .Or xs pos) (tT X.K W (evTM (evOr cf es)))
  ifs : ∀ xs, okIfs S es xs = true → PTs X xs (tT X.K W (evIfs cf es))
  po : ∀ x, okPart S es x = true → PO X x (tP X.K W (evPart cf es))
def OkEs (cf : Cf) (es : Es) : Prop := ∀ (S : SC) (X : Cx) (W : WX), CtxOk cf S X W → OkEsP cf es S X W
def OkPs (cf : Cf) (ps : Ps) : Prop := ∀ (S : SC) (X : Cx) (W : WX) (pos : Pos) (ks : List (Option Expr)) (vs : List Expr), CtxOk cf S X W → okPs S ps ks vs = true → PQ X pos ks vs (tQ X.K W (evPs cf ps)) ∧ ks.all (·.isSome) = true ∧ ks.length = vs.length
def OkTg (cf : Cf) (t : Tg) : Prop := ∀ (S : SC) (X : Cx) (W : WX) (tg : Expr), CtxOk cf S X W → okTg S t tg = true → PG X tg (tG X.K (tgV t) (asgT cf t))
def OkTgs (cf : Cf) (ts : Tgs) : Prop := ∀ (S : SC) (X : Cx) (W : WX) (tgs : List Expr), CtxOk cf S X W → okTgs S ts tgs = true → PGs X tgs (tGs X.K (tgsV ts) (asgTs cf ts)) ∧ (assignEach tgs X.env).length = ts.len ∧ (assignEach tgs X.env).findIdx? (·.1) = none
def OkI (cf : Cf) (i : I) : Prop := ∀ (S : SC) (X : Cx) (W : WX) (tg it : Expr), CtxOk cf S X W → okI S i tg it = true → PI X tg it (tIt X.K W (evI cf i))

section
variable {cf : Cf} {S : SC} {X : Cx} {W : WX}
theorem okEs_star {es : Es} {xs : List Expr} (h : okEs S es xs = true) : xs.all (fun e => !starB e) = true := by
  induction xs generalizing es with
  | nil => rfl
  | cons x xs ih =>
    cases es with
    | nil => simp [okEs] at h
    | cons e es =>
      simp only [okEs, Bool.and_eq_true] at h
      simp only [List.all_cons, Bool.and_eq_true]
      exact ⟨h.1, ih h.2.2⟩
theorem okEs_len {es : Es} {xs : List Expr} (h : okEs S es xs = true) : es.len = xs.length := by
  induction xs generalizing es with
  | nil => cases es <;> simp [okEs] at h; rfl
  | cons x xs ih =>
    cases es with
    | nil => simp [okEs] at h
    | cons e es =>
      simp only [okEs, Bool.and_eq_true] at h
      simp only [Es.len, List.length_cons, ih h.2.2]
theorem all_star {x : Expr} {xs : List Expr} (h : (x :: xs).all (fun e => !starB e) = true) : starB x = false ∧ xs.all (fun e => !starB e) = true := by
  simp only [List.all_cons, Bool.and_eq_true, Bool.not_eq_true'] at h
  exact h
/-- a test by its value -/
theorem pt_of {e : E} {ex : Expr} (h : PE X ex (tE X.K W (evE cf e))) (hd : ∀ env whole, isTrue ex env whole = (do let v ← whole; standAt ex.pos; holding [v] (truthy v))) : PE X ex (tE X.K W (evE cf e)) ∧ PT X ex (tT X.K W (evT cf e)) :=
  ⟨h, st_tru (hd X.env) h⟩
theorem pt_if {c a b : Expr} {pos : Pos} {Tc Ta Tb : Env' → M Bool} (hc : PT X c (tT X.K W Tc)) (ha : PT X a (tT X.K W Ta)) (hb : PT X b (tT X.K W Tb)) : PT X (.IfExp c a b pos) (tT X.K W fun ρ => do
    let k ← Tc ρ
    if k then Ta ρ else Tb ρ) := ⟨fun pins s σ H Q I ⟨mu, g, ρ, S, R, h⟩ => by
  show wpAny (model X.prog X.w) X.A (isTrue c X.env (eval c X.env) >>= fun k => if k = true then isTrue a X.env (eval a X.env) else isTrue b X.env (eval b X.env)) _ _ _
  refine wpAny_bind (thn (hc.run pins s σ H (fun k H1 => if k = true then tT X.K W Ta σ H1 Q else tT X.K W Tb σ H1 Q) I ⟨mu, g, ρ, S, R, (Wp.bd h).mono fun mu1 g1 H1 k e1 S1 h1 => ?_⟩) fun k s1 ⟨H1, I1, q1⟩ => ?_)
  · cases k with
    | true => exact ⟨mu1, g1, ρ, S1, R.ext e1, h1⟩
    | false => exact ⟨mu1, g1, ρ, S1, R.ext e1, h1⟩
  · cases k with
    | true => exact ha.run pins s1 σ H1 Q I1 q1
    | false => exact hb.run pins s1 σ H1 Q I1 q1⟩

theorem blt_ok {x y : Str} (c : CtxOk cf S X W) (h : bltB S x y = true) : x = y ∧ Gl X x ∧ X.mg x = none := by
  obtain ⟨h1, h2⟩ := ba h
  obtain ⟨h0, h1⟩ := ba h1
  exact ⟨of_decide_eq_true h0, gl_ok c h1, c.free x (by simpa using h2)⟩
theorem tys_ok (c : CtxOk cf S X W) : ∀ {ts : List Ty} {es : List Expr}, tysB S ts es = true → PA X es (fun σ H Q => Q (ts.map fun t => V.ty (tyS t)) H) ∧ es.all (fun e => !starB e) = true
  | [], [], _ => ⟨pa_mono pa_nil fun σ H Q h => h, rfl⟩
  | [], _ :: _, h => by simp [tysB] at h
  | _ :: _, [], h => by simp [tysB] at h
  | t :: ts, e :: es, h => by
    cases e with
    | Name x p =>
      simp only [tysB, Bool.and_eq_true] at h
      obtain ⟨rfl, hg, hm⟩ := blt_ok c h.1
      obtain ⟨r1, r2⟩ := tys_ok c h.2
      have h1 : PE X (.Name (tyN' t) p) (tC (.ty (tyS t))) := by
        cases t <;> exact pe_bltn hg hm (by decide +kernel) rfl
      refine ⟨pa_mono (pa_cons h1 r1 (star_cons rfl)) fun σ H Q h => h, ?_⟩
      simp only [List.all_cons, Bool.and_eq_true]
      exact ⟨rfl, r2⟩
    | _ => simp [tysB] at h
end
end DL

set_option Elab.async false
set_option linter.all false
set_option maxRecDepth 100000
set_option maxHeartbeats 4000000
/-! the deep layer: the checker is right: each kind of expression -/
namespace DL
open PySem PySem.Spec PyProof.Rows L2
variable [Wd]

section
variable {cf : Cf} {a b c e o elt : E} {es : Es} {x y : Str} {t : Tg} {it : DL.I} {ifs lo hi : Es}
theorem bd2 {p q : Bool} (h : (p && q) = true) : p = true ∧ q = true := Bool.and_eq_true_iff.mp h
theorem nt {p : Bool} (h : (!p) = true) : p = false := by simpa using h
theorem ok_v {i : Nat} : OkE cf (.v i) := by
  intro S X W ex c h
  simp only [okE] at h
  split at h
  · obtain ⟨h1, h2⟩ := bd2 h
    obtain ⟨h2, h3⟩ := bd2 h2
    obtain ⟨n1, n2⟩ := nm_ok h3
    exact pt_of (e := .v i) (s_v (by rw [c.N]; exact of_decide_eq_true h1) (vis_ok c h2) n1 n2) fun _ _ => rfl
  · cases h
theorem ok_non : OkE cf .non := by
  intro S X W ex c h
  simp only [okE] at h
  split at h
  · exact pt_of (e := .non) (s_c pe_non fun _ _ _ => .non) fun _ _ => rfl
  · cases h
theorem ok_bl {b : Bool} : OkE cf (.bl b) := by
  intro S X W ex c h
  simp only [okE] at h
  split at h
  · have := eq_of_beq h
    subst this
    exact pt_of (e := .bl _) (s_c pe_bl fun _ _ _ => .bl _) fun _ _ => rfl
  · cases h
theorem ok_int {b : Int} : OkE cf (.int b) := by
  intro S X W ex c h
  simp only [okE] at h
  split at h
  · have := of_decide_eq_true h
    subst this
    exact pt_of (e := .int _) (s_c pe_int fun _ _ _ => .int _) fun _ _ => rfl
  · cases h
theorem ok_str {b : Str} : OkE cf (.str b) := by
  intro S X W ex c h
  simp only [okE] at h
  split at h
  · have := of_decide_eq_true h
    subst this
    exact pt_of (e := .str _) (s_c pe_str fun _ _ _ => .str _) fun _ _ => rfl
  · cases h
theorem ok_gl {x : Str} : OkE cf (.gl x) := by
  intro S X W ex c h
  simp only [okE] at h
  split at h
  · obtain ⟨h1, h2⟩ := bd2 h
    obtain ⟨h2, h3⟩ := bd2 h2
    have := of_decide_eq_true h1
    subst this
    exact pt_of (e := .gl _) (s_gl (u := .none) (v := .non) (gl_ok c h2) (nm_ok h3).1 fun d hd => c.b.glob _ d hd) fun _ _ => rfl
  · cases h
theorem ok_tup (H : OkEs cf es) : OkE cf (.tup es) := by
  intro S X W ex c h
  simp only [okE] at h
  split at h
  · exact pt_of (e := .tup es) (s_tup ((H S X W c).pa _ h)) fun _ _ => rfl
  · cases h
theorem ok_lst {fz : Bool} (H : OkEs cf es) : OkE cf (.lst fz es) := by
  intro S X W ex c h
  simp only [okE] at h
  split at h
  · exact pt_of (e := .lst fz es) (s_lst ((H S X W c).pa _ h)) fun _ _ => rfl
  · cases h
theorem ok_dct {fz : Bool} {ps : Ps} (H : OkPs cf ps) : OkE cf (.dct fz ps) := by
  intro S X W ex c h
  simp only [okE] at h
  split at h
  · rename_i ks vs pos
    obtain ⟨h1, h2⟩ := bd2 h
    have h2 := of_decide_eq_true h2
    obtain ⟨q1, q2, q3⟩ := H S X W pos ks vs c h1
    refine pt_of (e := .dct fz ps) ?_ fun _ _ => rfl
    by_cases hk : ks = []
    · subst hk
      cases vs with
      | nil =>
        cases ps with
        | nil => exact s_dct0
        | cons _ _ _ => simp [okPs] at h1
      | cons _ _ => cases q3
    · exact s_dct q1 q2 q3 hk h2
  · cases h
theorem ok_bin {op : Op2} (Ha : OkE cf a) (Hb : OkE cf b) : OkE cf (.bin op a b) := by
  intro S X W ex c h
  simp only [okE] at h
  split at h
  · obtain ⟨h1, h2⟩ := bd2 h
    obtain ⟨h2, h3⟩ := bd2 h2
    have := of_decide_eq_true h1
    subst this
    exact pt_of (e := .bin op a b) (s_bin (op2_ok op) (Ha S X W _ c h2).1 (Hb S X W _ c h3).1) fun _ _ => rfl
  · cases h
theorem ok_neg (Ha : OkE cf a) : OkE cf (.neg a) := by
  intro S X W ex c h
  simp only [okE] at h
  split at h
  · exact pt_of (e := .neg a) (s_neg (Ha S X W _ c h).1) fun _ _ => rfl
  · cases h
theorem ok_not (Ha : OkE cf a) : OkE cf (.not a) := by
  intro S X W ex c h
  simp only [okE] at h
  split at h
  · refine ⟨s_not (Ha S X W _ c h).1, ?_⟩
    rw [evT_not]
    exact st_not (Ha S X W _ c h).2
  · cases h
theorem ok_and (H : OkEs cf es) : OkE cf (.and es) := by
  intro S X W ex c h
  simp only [okE] at h
  split at h
  · rename_i xs pos
    obtain ⟨h1, h2⟩ := bd2 h
    have hne : xs ≠ [] := by
      intro e
      subst e
      cases h2
    obtain ⟨q1, q2⟩ := (H S X W c).an xs pos h1 hne
    exact ⟨q1, q2.pt⟩
  · cases h
theorem ok_or (H : OkEs cf es) : OkE cf (.or es) := by
  intro S X W ex c h
  simp only [okE] at h
  split at h
  · rename_i xs pos
    obtain ⟨h1, h2⟩ := bd2 h
    have hne : xs ≠ [] := by
      intro e
      subst e
      cases h2
    obtain ⟨q1, q2⟩ := (H S X W c).orr xs pos h1 hne
    exact ⟨q1, q2.pt⟩
  · cases h
theorem ok_cmp {op : Cp} (Ha : OkE cf a) (Hb : OkE cf b) : OkE cf (.cmp op a b) := by
  intro S X W ex c h
  simp only [okE] at h
  split at h
  · obtain ⟨h1, h2⟩ := bd2 h
    obtain ⟨h0, h2⟩ := bd2 h2
    obtain ⟨h2, h3⟩ := bd2 h2
    have := of_decide_eq_true h1
    subst this
    refine ⟨s_cmp (set_no (nt h0)) (cp_ok op c.wd c.hu) (Ha S X W _ c h2).1 (Hb S X W _ c h3).1, ?_⟩
    rw [evT_cmp]
    exact st_cmp (set_no (nt h0)) (cp_ok op c.wd c.hu) (Ha S X W _ c h2).1 (Hb S X W _ c h3).1
  · cases h
theorem ok_cmp2 {op op' : Cp} {d : E} (Ha : OkE cf a) (Hb : OkE cf b) (Hc : OkE cf d) : OkE cf (.cmp2 op op' a b d) := by
  intro S X W ex c h
  simp only [okE] at h
  split at h
  · obtain ⟨h1, h2⟩ := bd2 h
    obtain ⟨h1, h1'⟩ := bd2 h1
    obtain ⟨h0, h2⟩ := bd2 h2
    obtain ⟨h2, h3⟩ := bd2 h2
    obtain ⟨h3, h4⟩ := bd2 h3
    have := of_decide_eq_true h1
    subst this
    have := of_decide_eq_true h1'
    subst this
    have hm := set_no (op := pyCp op') (nt h0)
    refine ⟨s_cmp2 hm (cp_ok op c.wd c.hu) (cp_ok op' c.wd c.hu) (Ha S X W _ c h2).1 (Hb S X W _ c h3).1 (Hc S X W _ c h4).1, ?_⟩
    rw [evT_cmp2]
    exact st_cmp2 hm (cp_ok op c.wd c.hu) (cp_ok op' c.wd c.hu) (Ha S X W _ c h2).1 (Hb S X W _ c h3).1 (Hc S X W _ c h4).1
  · cases h
theorem ok_isn (Ha : OkE cf a) : OkE cf (.isn a) := by
  intro S X W ex c h
  simp only [okE] at h
  split at h
  · refine ⟨s_isn (Ha S X W _ c h).1, ?_⟩
    rw [evT_isn]
    exact st_isn (Ha S X W _ c h).1
  · cases h
theorem ok_notn (Ha : OkE cf a) : OkE cf (.notn a) := by
  intro S X W ex c h
  simp only [okE] at h
  split at h
  · refine ⟨s_notn (Ha S X W _ c h).1, ?_⟩
    rw [evT_notn]
    exact st_notn (Ha S X W _ c h).1
  · cases h
theorem ok_ite (Hc : OkE cf o) (Ha : OkE cf a) (Hb : OkE cf b) : OkE cf (.ite o a b) := by
  intro S X W ex c h
  simp only [okE] at h
  split at h
  · obtain ⟨h1, h2⟩ := bd2 h
    obtain ⟨h2, h3⟩ := bd2 h2
    constructor
    · rw [evE_ite]
      exact s_ite (Hc S X W _ c h1).2 (Ha S X W _ c h2).1 (Hb S X W _ c h3).1
    · rw [evT_ite]
      exact pt_if (Hc S X W _ c h1).2 (Ha S X W _ c h2).2 (Hb S X W _ c h3).2
  · cases h
theorem hu1 {S : SC} {X : Cx} {W : WX} (c : CtxOk cf S X W) : X.A.units + 1 < cLine := by
  have := c.hu
  omega
theorem ok_ix (Ha : OkE cf a) (Hb : OkE cf b) : OkE cf (.ix a b) := by
  intro S X W ex c h
  simp only [okE] at h
  split at h
  · obtain ⟨h1, h2⟩ := bd2 h
    obtain ⟨h2, h3⟩ := bd2 h2
    exact pt_of (e := .ix a b) (s_ix c.wd c.hu c.b.kd (ix_plain h1) (Ha S X W _ c h2).1 (Hb S X W _ c h3).1) fun _ _ => rfl
  · cases h
theorem ok_sl (Ha : OkE cf a) (Hl : OkEs cf lo) (Hh : OkEs cf hi) : OkE cf (.sl a lo hi) := by
  intro S X W ex c h
  simp only [okE] at h
  split at h
  · obtain ⟨h1, h2⟩ := bd2 h
    obtain ⟨h2, h3⟩ := bd2 h2
    exact pt_of (e := .sl a lo hi) (s_sl (Ha S X W _ c h1).1 ((Hl S X W c).po _ h2) ((Hh S X W c).po _ h3)) fun _ _ => rfl
  · cases h
theorem ok_fld {f : Str} (Ha : OkE cf a) : OkE cf (.fld a f) := by
  intro S X W ex c h
  simp only [okE] at h
  split at h
  · obtain ⟨h1, h2⟩ := bd2 h
    obtain ⟨h2, h3⟩ := bd2 h2
    have := of_decide_eq_true h1
    subst this
    exact pt_of (e := .fld a f) (s_fld c.b.fld (Ha S X W _ c h3).1 (ab_ok h2)) fun _ _ => rfl
  · cases h
theorem ok_call {f : Str} (H : OkEs cf es) : OkE cf (.call f es) := by
  intro S X W ex c h
  simp only [okE] at h
  split at h
  · rename_i x p xs pos
    obtain ⟨h1, k2⟩ := bd2 h
    obtain ⟨k3, k4⟩ := bd2 k2
    obtain ⟨hc, k4⟩ := bd2 k4
    obtain ⟨h3, h4⟩ := bd2 k4
    obtain ⟨h2, hn⟩ := bd2 k3
    have := of_decide_eq_true h1
    subst this
    obtain ⟨k, hr, hmg, cc⟩ := c.b.call hc _ _ (c.ar _ _ h4)
    have hg := gl_ok c h2
    have hx := (nm_ok hn).1
    refine pt_of (e := .call f es) ?_ fun _ _ => rfl
    clear h h1 k2 k3 k4 h2 hn h4
    cases xs with
    | nil =>
      cases es with
      | nil => exact s_call0 cc hmg hr c.tk hg hx
      | cons _ _ => simp [okEs] at h3
    | cons y ys =>
      obtain ⟨s1, s2⟩ := all_star (okEs_star h3)
      exact s_call cc hmg hr c.tk (fun ρ g ds g' q => evEs_len q) hg ((H S X W c).pa _ h3) hx (star_cons s1) (star_any s2 _)
  · cases h
theorem ok_callv {i : Nat} (H : OkEs cf es) : OkE cf (.callv i es) := by
  intro S X W ex c h
  simp only [okE] at h
  split at h
  · rename_i x p y xs pos
    obtain ⟨hc, h⟩ := bd2 h
    obtain ⟨h1, h2⟩ := bd2 h
    obtain ⟨h2, h3⟩ := bd2 h2
    obtain ⟨h2, hn⟩ := bd2 h2
    obtain ⟨n1, n2⟩ := nm_ok hn
    obtain ⟨s1, s2⟩ := all_star (okEs_star h3)
    exact pt_of (e := .callv i es) (s_callv (c.b.call hc) c.tk (fun ρ g ds g' q => evEs_len q) (by rw [c.N]; exact of_decide_eq_true h1) (vis_ok c h2) ((H S X W c).pa _ h3) n1 n2 (star_cons s1) (star_any s2 _)) fun _ _ => rfl
  · cases h
theorem ok_bi {b : Bi} (H : OkEs cf es) : OkE cf (.bi b es) := by
  intro S X W ex c h
  simp only [okE] at h
  split at h
  · rename_i x p y xs pos
    obtain ⟨hc, h⟩ := bd2 h
    obtain ⟨h1, h3⟩ := bd2 h
    obtain ⟨rfl, hg, hm⟩ := blt_ok c h1
    obtain ⟨s1, s2⟩ := all_star (okEs_star h3)
    have ha := (H S X W c).pa _ h3
    refine pt_of (e := .bi b es) ?_ fun _ _ => rfl
    have he : ∀ env, starEach (y :: xs) env = (false, eval y env) :: starEach xs env := fun env => star_cons s1
    have hp := star_any (env := X.env) s2 pos
    cases b with
    | len => exact s_biB (bi_len c.wd) hg hm (by decide +kernel) ha (by decide) (by decide) (he _) hp
    | tuple => exact s_biT bi_tuple hg hm (by decide +kernel) ha (by decide) (by decide) (he _) hp
    | list fz => cases fz <;> exact s_biT (bi_list (c.calm hc)) hg hm (by decide +kernel) ha (by decide) (by decide) (he _) hp
    | min2 => exact s_biB (bi_min2 (c.calm hc)) hg hm (by decide +kernel) ha (by decide) (by decide) (he _) hp
    | max2 => exact s_biB (bi_max2 (c.calm hc)) hg hm (by decide +kernel) ha (by decide) (by decide) (he _) hp
    | abs => exact s_biB bi_abs hg hm (by decide +kernel) ha (by decide) (by decide) (he _) hp
    | all => exact s_biB (bi_bools (cr_all (c.calm hc))) hg hm (by decide +kernel) ha (by decide) (by decide) (he _) hp
    | any => exact s_biB (bi_bools (cr_any (c.calm hc))) hg hm (by decide +kernel) ha (by decide) (by decide) (he _) hp
    | sum => exact s_biB (bi_sum (c.calm hc)) hg hm (by decide +kernel) ha (by decide) (by decide) (he _) hp
    | sortI fz => cases fz <;> exact s_biB bi_sortI hg hm (by decide +kernel) ha (by decide) (by decide) (he _) hp
    | strI => exact s_biT bi_strI hg hm (by decide +kernel) ha (by decide) (by decide) (he _) hp
    | dict fz => cases fz <;> exact s_biT (bi_dict (c.calm hc) c.wd c.hu) hg hm (by decide +kernel) ha (by decide) (by decide) (he _) hp
  · cases h
theorem mi_all {X : Cx} (hw : X.w = Wd.w) (hu : X.A.units + 64 < cLine) (m : Mt) : ∃ id, MtI X m (mtN m) id := by
  cases m with
  | append => exact ⟨_, mi_append⟩
  | get => exact ⟨_, mi_get hw hu⟩
  | join => exact ⟨_, mi_join⟩
  | pop => exact ⟨_, mi_pop⟩
  | split fz => exact ⟨_, mi_split⟩
  | upper => exact ⟨_, mi_upper⟩
  | extend => exact ⟨_, mi_extend⟩
  | clear => exact ⟨_, mi_clear⟩
  | count => exact ⟨_, mi_count⟩
theorem ok_mt {m : Mt} (Ho : OkE cf o) (H : OkEs cf es) : OkE cf (.mt m o es) := by
  intro S X W ex c h
  simp only [okE] at h
  split at h
  · rename_i x f apos xs cpos
    obtain ⟨h1, k2⟩ := bd2 h
    obtain ⟨k3, k4⟩ := bd2 k2
    obtain ⟨h2, hline⟩ := bd2 k3
    obtain ⟨hlen, k5⟩ := bd2 k4
    obtain ⟨h3, h4⟩ := bd2 k5
    have := of_decide_eq_true h1
    subst this
    obtain ⟨id, i⟩ := mi_all c.wd c.hu m
    have hl := of_decide_eq_true hlen
    have ho := (Ho S X W _ c h3).1
    refine pt_of (e := .mt m o es) ?_ fun _ _ => rfl
    clear h h1 k2 k3 k4 k5 hlen h3
    cases xs with
    | nil =>
      cases es with
      | nil => exact s_mt0 i ho (ab_ok h2) hline
      | cons _ _ => simp [okEs] at h4
    | cons y ys =>
      have hs := okEs_star h4
      obtain ⟨s1, s2⟩ := all_star hs
      refine s_mt i ho ((H S X W c).pa _ h4) (ab_ok h2) ?_ hline (star_cons s1) (star_any s2 _)
      rw [star_all hs]
      have e1 : decide ((y :: ys).length + ([] : List Keyword).length + (if ([] : List Keyword).isEmpty then 0 else 1) < 30) = true := by
        rw [decide_eq_true_eq]
        simp only [List.length_nil, List.isEmpty_nil, if_true]
        omega
      rw [e1]
      rfl
  · cases h
theorem ok_deq (Ha : OkE cf a) (Hb : OkE cf b) : OkE cf (.deq a b) := by
  intro S X W ex c h
  simp only [okE] at h
  split at h
  · obtain ⟨h1, h2⟩ := bd2 h
    obtain ⟨h0, h2⟩ := bd2 h2
    obtain ⟨h2, h3⟩ := bd2 h2
    have := of_decide_eq_true h1
    subst this
    refine ⟨s_cmp (set_no (nt h0)) (deq_ok c.hu) (Ha S X W _ c h2).1 (Hb S X W _ c h3).1, ?_⟩
    rw [evT_deq]
    exact st_cmp (set_no (nt h0)) (deq_ok c.hu) (Ha S X W _ c h2).1 (Hb S X W _ c h3).1
  · cases h
theorem ok_rev (Ha : OkE cf a) : OkE cf (.rev a) := by
  intro S X W ex c h
  simp only [okE] at h
  split at h
  · obtain ⟨h1, h2⟩ := bd2 h
    have := of_decide_eq_true h1
    subst this
    exact pt_of (e := .rev a) (s_rev (Ha S X W _ c h2).1) fun _ _ => rfl
  · cases h
theorem ok_rep {fz : Bool} (Ha : OkE cf a) (Hb : OkE cf b) : OkE cf (.rep fz a b) := by
  intro S X W ex c h
  simp only [okE] at h
  split at h
  · obtain ⟨h1, h2⟩ := bd2 h
    obtain ⟨h2, h3⟩ := bd2 h2
    have := of_decide_eq_true h1
    subst this
    exact pt_of (e := .rep fz a b) (s_rep (Ha S X W _ c h2).1 (Hb S X W _ c h3).1) fun _ _ => rfl
  · cases h
theorem ok_kget (Ho : OkE cf o) (H : OkEs cf es) : OkE cf (.kget o es) := by
  intro S X W ex c h
  simp only [okE] at h
  split at h
  · rename_i x f apos y ys cpos
    obtain ⟨h1, k2⟩ := bd2 h
    obtain ⟨k3, k4⟩ := bd2 k2
    obtain ⟨h2, hline⟩ := bd2 k3
    obtain ⟨hlen, k5⟩ := bd2 k4
    obtain ⟨h3, h4⟩ := bd2 k5
    have := of_decide_eq_true h1
    subst this
    have hl := of_decide_eq_true hlen
    have ho := (Ho S X W _ c h3).1
    refine pt_of (e := .kget o es) ?_ fun _ _ => rfl
    have hs := okEs_star h4
    obtain ⟨s1, s2⟩ := all_star hs
    refine s_kget c.b.kt ho ((H S X W c).pa _ h4) (ab_ok h2) ?_ hline (star_cons s1) (star_any s2 _)
    rw [star_all hs]
    have e1 : decide ((y :: ys).length + ([] : List Keyword).length + (if ([] : List Keyword).isEmpty then 0 else 1) < 30) = true := by
      rw [decide_eq_true_eq]
      simp only [List.length_nil, List.length_cons, List.isEmpty_nil, if_true]
      omega
    rw [e1]
    rfl
  · cases h
theorem ok_mk {fz : Bool} {C : Str} (H : OkEs cf es) : OkE cf (.mk fz C es) := by
  intro S X W ex c h
  simp only [okE] at h
  split at h
  · rename_i x p xs pos
    obtain ⟨h1, k2⟩ := bd2 h
    obtain ⟨k3, k4⟩ := bd2 k2
    obtain ⟨hc, k4⟩ := bd2 k4
    obtain ⟨h3, h4⟩ := bd2 k4
    obtain ⟨h2, hn⟩ := bd2 k3
    have := of_decide_eq_true h1
    subst this
    obtain ⟨hi, hmg, hkp⟩ := c.mks _ (by simpa using h4)
    have hg := gl_ok c h2
    have hx := (nm_ok hn).1
    refine pt_of (e := .mk fz C es) ?_ fun _ _ => rfl
    clear h h1 k2 k3 k4 h2 hn h4
    have hI : InitOk X cf.init cf.okm cf.call := fun C key n a b => c.b.init hc C key n a b
    cases xs with
    | nil =>
      cases es with
      | nil => exact s_mk0 hI (fun _ => ⟨hmg, hkp⟩) c.tk hg hx hi
      | cons _ _ => simp [okEs] at h3
    | cons y ys =>
      obtain ⟨s1, s2⟩ := all_star (okEs_star h3)
      exact s_mk hI (fun _ => ⟨hmg, hkp⟩) c.tk hg ((H S X W c).pa _ h3) hx (star_cons s1) (star_any s2 _) hi
  · cases h
theorem ok_own {m : Str} (Ho : OkE cf o) (H : OkEs cf es) : OkE cf (.own m o es) := by
  intro S X W ex c h
  simp only [okE] at h
  split at h
  · rename_i x f apos xs cpos
    obtain ⟨hc, h⟩ := bd2 h
    obtain ⟨h1, k2⟩ := bd2 h
    obtain ⟨k3, k4⟩ := bd2 k2
    obtain ⟨h2, hline⟩ := bd2 k3
    obtain ⟨hlen, k5⟩ := bd2 k4
    obtain ⟨h3, h4⟩ := bd2 k5
    have := of_decide_eq_true h1
    subst this
    have hl := of_decide_eq_true hlen
    have ho := (Ho S X W _ c h3).1
    have hM : MethOk X cf.meth cf.okm cf.call := fun C m key n a b => c.b.meth hc C m key n a b
    refine pt_of (e := .own f o es) ?_ fun _ _ => rfl
    clear h h1 k2 k3 k4 k5 hlen h3
    cases xs with
    | nil =>
      cases es with
      | nil =>
        have key := s_own0 (m := f) hM c.tk ho (ab_ok h2) hline
        exact key
      | cons _ _ => simp [okEs] at h4
    | cons y ys =>
      have hs := okEs_star h4
      obtain ⟨s1, s2⟩ := all_star hs
      refine s_own (n := es.len) hM c.tk (fun ρ g ds g' q => evEs_len q) ho ((H S X W c).pa _ h4) (ab_ok h2) ?_ hline (star_cons s1) (star_any s2 _)
      rw [star_all hs]
      have e1 : decide ((y :: ys).length + ([] : List Keyword).length + (if ([] : List Keyword).isEmpty then 0 else 1) < 30) = true := by
        rw [decide_eq_true_eq]
        simp only [List.length_nil, List.isEmpty_nil, if_true]
        omega
      rw [e1]
      rfl
  · cases h
theorem cls_one {S : SC} {X : Cx} {W : WX} (c : CtxOk cf S X W) {t x : Str} {p : Pos} (h : (decide (t = x) && (bltB S x "ValueError" || (!decide (x = "ValueError") && ((glB S.sc x && nmB x) && S.cls.contains x)))) = true) : PE X (.Name x p) (tC (clVV X.K t)) := by
  obtain ⟨h0, h1⟩ := bd2 h
  have := of_decide_eq_true h0
  subst this
  rcases Bool.or_eq_true_iff.mp h1 with h2 | h2
  · obtain ⟨rfl, hg, hm⟩ := blt_ok c h2
    have e : clVV X.K "ValueError" = .ty "ValueError" := if_pos rfl
    rw [e]
    exact pe_bltn hg hm (by decide +kernel) rfl
  · obtain ⟨k0, k1⟩ := bd2 h2
    obtain ⟨k1, k3⟩ := bd2 k1
    obtain ⟨k1, k2⟩ := bd2 k1
    have e : clVV X.K t = .ref (He.ga X.K t) := if_neg (of_decide_eq_false (nt k0))
    rw [e]
    exact pe_glob (gl_ok c k1) (c.cls _ (by simpa using k3)) rfl (nm_ok k2).1
theorem cls_ok {S : SC} {X : Cx} {W : WX} (c : CtxOk cf S X W) : ∀ {ts : List Str} {es : List Expr}, clssB S ts es = true → PA X es (fun σ H Q => Q (ts.map fun c => clVV X.K c) H) ∧ es.all (fun e => !starB e) = true
  | [], [], _ => ⟨pa_mono pa_nil fun σ H Q h => h, rfl⟩
  | [], _ :: _, h => by simp [clssB] at h
  | _ :: _, [], h => by simp [clssB] at h
  | t :: ts, e :: es, h => by
    cases e with
    | Name x p =>
      simp only [clssB] at h
      obtain ⟨h1, h2⟩ := bd2 h
      obtain ⟨r1, r2⟩ := cls_ok c h2
      have q1 : PE X (.Name x p) (tC (clVV X.K t)) := cls_one c h1
      refine ⟨pa_mono (pa_cons q1 r1 (star_cons rfl)) fun σ H Q h => h, ?_⟩
      simp only [List.all_cons, Bool.and_eq_true]
      exact ⟨rfl, r2⟩
    | _ => simp [clssB] at h
theorem ok_isc {cs : List Str} {many : Bool} (Ha : OkE cf a) : OkE cf (.isc a cs many) := by
  intro S X W ex c h
  simp only [okE] at h
  split at h
  · rename_i x p y t pos
    obtain ⟨h1, h2⟩ := bd2 h
    obtain ⟨h0, h2⟩ := bd2 h2
    obtain ⟨h2, h3⟩ := bd2 h2
    obtain ⟨rfl, hg, hm⟩ := blt_ok c h1
    have q := (Ha S X W _ c h2).1
    refine pt_of (e := .isc a cs many) ?_ fun _ _ => rfl
    split at h3
    · obtain ⟨h3, h4⟩ := bd2 h3
      cases cs with
      | nil => simp [clssB] at h4
      | cons ty ts =>
        cases ts with
        | nil =>
          obtain ⟨q1, q2⟩ := cls_ok c h4
          cases t with
          | Name z pz =>
            simp only [clssB] at h4
            obtain ⟨h4, _⟩ := bd2 h4
            exact s_isc1 c.b.isi c.b.isx hg hm q (cls_one c h4) (star_cons (nt h0)) (star_cons rfl)
          | _ => simp [clssB] at h4
        | cons _ _ =>
          cases t with
          | Name _ _ => simp [clssB] at h4
          | _ => simp [clssB] at h4
    · obtain ⟨h3, h4⟩ := bd2 h3
      obtain ⟨h4, h5⟩ := bd2 h4
      have h5 := of_decide_eq_true h5
      have hne : cs ≠ [] := by
        intro e
        subst e
        cases h4
      obtain ⟨q1, q2⟩ := cls_ok c h3
      exact s_iscT hne (Nat.le_trans h5 (by decide)) c.b.isi c.b.isx hg hm q q1 (star_cons (nt h0)) (star_cons rfl)
    · cases h3
  · cases h
theorem ok_slen (Ha : OkE cf a) : OkE cf (.slen a) := by
  intro S X W ex c h
  simp only [okE] at h
  split at h
  · obtain ⟨hc, h⟩ := bd2 h
    obtain ⟨h1, h2⟩ := bd2 h
    obtain ⟨k1, k2⟩ := bd2 h1
    obtain ⟨k3, k4⟩ := bd2 h2
    obtain ⟨rfl, hg, hm⟩ := blt_ok c k1
    obtain ⟨rfl, hg2, hm2⟩ := blt_ok c k2
    exact pt_of (e := .slen a) (s_slen (c.calm hc) hg hm hg2 hm2 (Ha S X W _ c k4).1 (star_cons (nt k3))) fun _ _ => rfl
  · cases h
theorem ok_never : OkE cf .bad := by
  intro S X W ex c h
  exact ⟨pe_bad fun σ H Q ⟨mu, g, ρ, _, _, h⟩ => by simp only [evE] at h; exact h.elim, ⟨fun pins s σ H Q I ⟨mu, g, ρ, _, _, h⟩ => by
    simp only [evT, evTM, evE, bind_def] at h
    exact h.elim⟩⟩
theorem ok_isi {ts : List Ty} {many : Bool} (Ha : OkE cf a) : OkE cf (.isi a ts many) := by
  intro S X W ex c h
  simp only [okE] at h
  split at h
  · rename_i x p y t pos
    obtain ⟨h1, h2⟩ := bd2 h
    obtain ⟨h0, h2⟩ := bd2 h2
    obtain ⟨h2, h3⟩ := bd2 h2
    obtain ⟨rfl, hg, hm⟩ := blt_ok c h1
    have q := (Ha S X W _ c h2).1
    refine pt_of (e := .isi a ts many) ?_ fun _ _ => rfl
    split at h3
    · obtain ⟨h3, h4⟩ := bd2 h3
      cases ts with
      | nil => simp [tysB] at h4
      | cons ty ts =>
        cases ts with
        | nil =>
          cases t with
          | Name z pz =>
            simp only [tysB, Bool.and_eq_true] at h4
            obtain ⟨rfl, hg', hm'⟩ := blt_ok c h4.1
            have h1 : PE X (.Name (tyN' ty) pz) (tC (.ty (tyS ty))) := by
              cases ty <;> exact pe_bltn hg' hm' (by decide +kernel) rfl
            exact s_isi1 hg hm q h1 (star_cons (nt h0)) (star_cons rfl)
          | _ => simp [tysB] at h4
        | cons _ _ =>
          cases t with
          | Name _ _ => simp [tysB] at h4
          | _ => simp [tysB] at h4
    · obtain ⟨h3, h4⟩ := bd2 h3
      obtain ⟨h4, h5⟩ := bd2 h4
      have h5 := of_decide_eq_true h5
      have hne : ts ≠ [] := by
        intro e
        subst e
        cases h4
      obtain ⟨q1, q2⟩ := tys_ok c h3
      exact s_isiT hne (Nat.le_trans h5 (by decide)) hg hm q q1 (star_cons (nt h0)) (star_cons rfl)
    · cases h3
  · cases h
theorem ownP_2 {S : SC} {own : List Nat} : (ownP S own).map (·.2) = own := by
  unfold ownP
  rw [List.map_map]
  exact List.map_id _
theorem ok_lc {fz : Bool} {own : List Nat} (Hi : OkI cf it) (Ht : OkTg cf t) (Hf : OkEs cf ifs) (He : OkE cf elt) : OkE cf (.lc fz own elt t it ifs) := by
  intro S X W ex c h
  simp only [okE] at h
  split at h
  · rename_i x tg iter fs scope pos
    obtain ⟨hc, h⟩ := bd2 h
    obtain ⟨h1, h2⟩ := bd2 h
    obtain ⟨h1, h1s⟩ := bd2 h1
    obtain ⟨h2, h3⟩ := bd2 h2
    obtain ⟨h2, hk⟩ := bd2 h2
    obtain ⟨h3, h4⟩ := bd2 h3
    obtain ⟨h3, hv⟩ := bd2 h3
    obtain ⟨h4, h5⟩ := bd2 h4
    have hk := of_decide_eq_true hk
    have bk : BlkOk X.N X.env.scope scope (ownP S own) := by
      rw [c.N, c.sc]
      exact blkOk_by h2
    have hvs : ∀ i ∈ tgV t, i ∈ (ownP S own).map (·.2) := by
      rw [ownP_2]
      intro i hi
      simpa using List.all_eq_true.mp hv i hi
    have key := s_lc (fz := fz) (W := W) hvs (c.calm hc) c.nd (Hi S X W tg iter c h1) bk (fun s H C cl fp => Ht _ _ WN tg (c.blk hk s H C cl fp) h3) (fun s H C cl fp => (Hf _ _ WN (c.blk hk s H C cl fp)).ifs fs h4) (fun s H C cl fp => (He _ _ WN _ (c.blk hk s H C cl fp) h5).1)
      (fun v => fold_no (nt h1s) v) (pos := pos)
    rw [ownP_2] at key
    exact pt_of (e := .lc fz own elt t it ifs) key fun _ _ => rfl
  · cases h

/-! rows of expressions -/
theorem oks_nil : OkEs cf .nil := by
  intro S X W c
  refine ⟨fun xs h => ?_, fun xs pos h hne => ?_, fun xs pos h hne => ?_, fun xs h => ?_, fun x h => ?_⟩
  · cases xs with
    | nil => exact sa_nil
    | cons _ _ => simp [okEs] at h
  · cases xs with
    | nil => exact absurd rfl hne
    | cons _ _ => simp [okEs] at h
  · cases xs with
    | nil => exact absurd rfl hne
    | cons _ _ => simp [okEs] at h
  · cases xs with
    | nil => exact ⟨fun pins s σ H Q I ⟨mu, g, ρ, S, R, h⟩ => pts_nil.run pins s σ H Q I (Wp.here S h)⟩
    | cons _ _ => simp [okIfs] at h
  · cases x with
    | none => exact sp_none
    | some _ => simp [okPart] at h
theorem oks_cons (He : OkE cf e) (H : OkEs cf es) : OkEs cf (.cons e es) := by
  intro S X W c
  have hh := H S X W c
  refine ⟨fun xs h => ?_, fun xs pos h hne => ?_, fun xs pos h hne => ?_, fun xs h => ?_, fun x h => ?_⟩
  · cases xs with
    | nil => simp [okEs] at h
    | cons x xs =>
      simp only [okEs] at h
      obtain ⟨h1, h2⟩ := bd2 h
      obtain ⟨h2, h3⟩ := bd2 h2
      exact sa_cons (star_cons (nt h1)) (He S X W _ c h2).1 (hh.pa _ h3)
  · cases xs with
    | nil => exact absurd rfl hne
    | cons x xs =>
      simp only [okEs] at h
      obtain ⟨h1, h2⟩ := bd2 h
      obtain ⟨h2, h3⟩ := bd2 h2
      obtain ⟨p1, p2⟩ := He S X W _ c h2
      cases es with
      | nil =>
        cases xs with
        | nil => exact ⟨pe_one p1, pw_and1 p2⟩
        | cons _ _ => simp [okEs] at h3
      | cons e2 es2 =>
        cases xs with
        | nil => simp [okEs] at h3
        | cons x2 xs2 =>
          obtain ⟨q1, q2⟩ := hh.an (x2 :: xs2) pos h3 (by simp)
          refine ⟨?_, ?_⟩
          · exact s_and p1 q1
          · rw [evT_and]
            exact st_and p2 q2
  · cases xs with
    | nil => exact absurd rfl hne
    | cons x xs =>
      simp only [okEs] at h
      obtain ⟨h1, h2⟩ := bd2 h
      obtain ⟨h2, h3⟩ := bd2 h2
      obtain ⟨p1, p2⟩ := He S X W _ c h2
      cases es with
      | nil =>
        cases xs with
        | nil => exact ⟨pe_one p1, pw_or1 p2⟩
        | cons _ _ => simp [okEs] at h3
      | cons e2 es2 =>
        cases xs with
        | nil => simp [okEs] at h3
        | cons x2 xs2 =>
          obtain ⟨q1, q2⟩ := hh.orr (x2 :: xs2) pos h3 (by simp)
          refine ⟨?_, ?_⟩
          · exact s_or p1 q1
          · rw [evT_or]
            exact st_or p2 q2
  · cases es with
    | nil =>
      cases xs with
      | nil => simp [okIfs] at h
      | cons x xs =>
        cases xs with
        | nil =>
          simp only [okIfs] at h
          rw [evIfs_one]
          exact pts_one (He S X W _ c h).2
        | cons _ _ => simp [okIfs] at h
    | cons _ _ => simp [okIfs] at h
  · cases es with
    | nil =>
      cases x with
      | none => simp [okPart] at h
      | some x =>
        simp only [okPart] at h
        exact sp_some (He S X W _ c h).1
    | cons _ _ => cases x <;> simp [okPart] at h
theorem okp_nil : OkPs cf .nil := by
  intro S X W pos ks vs c h
  cases ks with
  | nil =>
    cases vs with
    | nil => exact ⟨sq_nil, rfl, rfl⟩
    | cons _ _ => simp [okPs] at h
  | cons _ _ => cases vs <;> simp [okPs] at h
theorem okp_cons {k v : E} {ps : Ps} (Hk : OkE cf k) (Hv : OkE cf v) (H : OkPs cf ps) : OkPs cf (.cons k v ps) := by
  intro S X W pos ks vs c h
  cases ks with
  | nil => simp [okPs] at h
  | cons x ks =>
    cases x with
    | none => cases vs <;> simp [okPs] at h
    | some x =>
      cases vs with
      | nil => simp [okPs] at h
      | cons y vs =>
        simp only [okPs] at h
        obtain ⟨h1, h2⟩ := bd2 h
        obtain ⟨h2, h3⟩ := bd2 h2
        obtain ⟨q1, q2, q3⟩ := H S X W pos ks vs c h3
        exact ⟨sq_cons (Hk S X W _ c h1).1 (Hv S X W _ c h2).1 q1, by simp [q2], by simp [q3]⟩

/-! targets -/
theorem asg_sub {o i : Expr} {pos : Pos} {env : Env} (h : ixB i = true) (v : Value) : assign (.Subscript o i pos) env v = (do
      let ov ← holding [v] (eval o env)
      let iv ← holding [v, ov] (eval i env)
      standAt pos
      holding [v, ov, iv] (setItem ov iv v)
      release [v, ov, iv] []) := by
  cases i <;> first | rfl | cases h
theorem okt_v {i : Nat} : OkTg cf (.v i) := by
  intro S X W tg c h
  simp only [okTg] at h
  split at h
  · obtain ⟨h1, h2⟩ := bd2 h
    obtain ⟨q1, q2⟩ := loc_ok c h2
    exact sg_name c.nd (by rw [c.N]; exact of_decide_eq_true h1) q1 q2
  · cases h
theorem okt_tup {ts : Tgs} (H : OkTgs cf ts) : OkTg cf (.tup ts) := by
  intro S X W tg c h
  simp only [okTg] at h
  split at h
  · obtain ⟨hc, h⟩ := bd2 h
    obtain ⟨q1, q2, q3⟩ := H S X W _ c h
    exact sg_tup (c.calm hc) q1 q2 q3
  · cases h
theorem okt_ix (Ha : OkE cf a) (Hb : OkE cf b) : OkTg cf (.ix a b) := by
  intro S X W tg c h
  simp only [okTg] at h
  split at h
  · obtain ⟨h1, h2⟩ := bd2 h
    obtain ⟨h2, h3⟩ := bd2 h2
    refine sg_ix c.wd c.hu (Ha S X WN _ c.wn h2).1 (Hb S X WN _ c.wn h3).1 fun v => ?_
    exact asg_sub h1 v
  · cases h
theorem okt_fld {f : Str} : OkTg cf (.fld a f) := by
  intro S X W tg c h
  simp [okTg] at h
theorem okts_nil : OkTgs cf .nil := by
  intro S X W tgs c h
  cases tgs with
  | nil => 
    refine ⟨pgs_mono sgs_nil fun v σ H Q ⟨mu, g, ρ, ds, S, R, r, h⟩ => ⟨mu, g, ρ, ds, S, R, r, ?_⟩, rfl, rfl⟩
    cases ds with
    | nil => simp only [asgTs] at h; exact h
    | cons _ _ => simp only [asgTs] at h; exact h
  | cons _ _ => simp [okTgs] at h
theorem okts_cons {ts : Tgs} (Ht : OkTg cf t) (H : OkTgs cf ts) : OkTgs cf (.cons t ts) := by
  intro S X W tgs c h
  cases tgs with
  | nil => simp [okTgs] at h
  | cons x xs =>
    simp only [okTgs] at h
    obtain ⟨h1, h2⟩ := bd2 h
    obtain ⟨h2, h3⟩ := bd2 h2
    obtain ⟨q1, q2, q3⟩ := H S X W xs c h3
    have hs := asg_cons (env := X.env) (es := xs) (nt h1)
    refine ⟨pgs_mono (sgs_cons (Ht S X W _ c h2) q1 (by rw [hs]; rfl)) fun v σ H Q ⟨mu, g, ρ, ds, S, R, r, h⟩ => ⟨mu, g, ρ, ds, S, R, r, ?_⟩, ?_, ?_⟩
    · cases ds with
      | nil => simp only [asgTs] at h; exact h
      | cons _ _ => simp only [asgTs] at h; exact h
    · rw [hs]; simp [q2, Tgs.len]
    · rw [hs, List.findIdx?_cons]; simp [q3]

/-! what is gone through -/
theorem oki_e (Ha : OkE cf a) : OkI cf (.e a) := by
  intro S X W tg ex c h
  simp only [okI] at h
  exact si_e (Ha S X W _ c h).1
theorem oki_rng1 (Ha : OkE cf a) : OkI cf (.rng1 a) := by
  intro S X W tg ex c h
  simp only [okI] at h
  split at h
  · obtain ⟨h1, h2⟩ := bd2 h
    obtain ⟨h2, h3⟩ := bd2 h2
    obtain ⟨rfl, hg, hm⟩ := blt_ok c h1
    exact si_rng1 hg hm (Ha S X W _ c h3).1 (star_cons (nt h2))
  · cases h
theorem oki_rng2 (Ha : OkE cf a) (Hb : OkE cf b) : OkI cf (.rng2 a b) := by
  intro S X W tg ex c h
  simp only [okI] at h
  split at h
  · obtain ⟨h1, h2⟩ := bd2 h
    obtain ⟨h2, h3⟩ := bd2 h2
    obtain ⟨h2, h2'⟩ := bd2 h2
    obtain ⟨h3, h4⟩ := bd2 h3
    obtain ⟨rfl, hg, hm⟩ := blt_ok c h1
    exact si_rng2 hg hm (Ha S X W _ c h3).1 (Hb S X W _ c h4).1 (star_cons (nt h2)) (star_cons (nt h2'))
  · cases h
theorem oki_enum (Ha : OkE cf a) : OkI cf (.enum a) := by
  intro S X W tg ex c h
  simp only [okI] at h
  split at h
  · obtain ⟨h1, h2⟩ := bd2 h
    obtain ⟨h2, h3⟩ := bd2 h2
    obtain ⟨rfl, hg, hm⟩ := blt_ok c h1
    exact si_enum hg hm (Ha S X W _ c h3).1 (star_cons (nt h2))
  · cases h
theorem oki_zip (Ha : OkE cf a) (Hb : OkE cf b) : OkI cf (.zip a b) := by
  intro S X W tg ex c h
  simp only [okI] at h
  split at h
  · obtain ⟨h1, h2⟩ := bd2 h
    obtain ⟨h2, h3⟩ := bd2 h2
    obtain ⟨h2, h2'⟩ := bd2 h2
    obtain ⟨h3, h4⟩ := bd2 h3
    obtain ⟨rfl, hg, hm⟩ := blt_ok c h1
    exact si_zip hg hm (Ha S X W _ c h3).1 (Hb S X W _ c h4).1 (star_cons (nt h2)) (star_cons (nt h2'))
  · cases h
theorem oki_items (Ha : OkE cf a) : OkI cf (.items a) := by
  intro S X W tg ex c h
  simp only [okI] at h
  split at h
  · obtain ⟨h1, h2⟩ := bd2 h
    obtain ⟨h2, h3⟩ := bd2 h2
    obtain ⟨h2, hl⟩ := bd2 h2
    have := of_decide_eq_true h1
    subst this
    exact si_items (Ha S X W _ c h3).1 (ab_ok h2) hl
  · cases h
theorem oki_vals (Ha : OkE cf a) : OkI cf (.vals a) := by
  intro S X W tg ex c h
  simp only [okI] at h
  split at h
  · obtain ⟨h1, h2⟩ := bd2 h
    obtain ⟨h2, h3⟩ := bd2 h2
    obtain ⟨h2, hl⟩ := bd2 h2
    have := of_decide_eq_true h1
    subst this
    exact si_vals (Ha S X W _ c h3).1 (ab_ok h2) hl
  · cases h
theorem ok_bad {e : E} (h : ∀ S ex, okE S e ex = false) : OkE cf e := by
  intro S X W ex c q
  rw [h] at q
  cases q
end
mutual
theorem allE (cf : Cf) : ∀ e : E, OkE cf e
  | .v i => ok_v
  | .non => ok_non
  | .bl b => ok_bl
  | .int i => ok_int
  | .str x => ok_str
  | .gl x => ok_gl
  | .tup es => ok_tup (allEs cf es)
  | .lst fz es => ok_lst (allEs cf es)
  | .dct fz ps => ok_dct (allPs cf ps)
  | .bin op a b => ok_bin (allE cf a) (allE cf b)
  | .neg a => ok_neg (allE cf a)
  | .not a => ok_not (allE cf a)
  | .and es => ok_and (allEs cf es)
  | .or es => ok_or (allEs cf es)
  | .cmp op a b => ok_cmp (allE cf a) (allE cf b)
  | .cmp2 op op' a b c => ok_cmp2 (allE cf a) (allE cf b) (allE cf c)
  | .isn a => ok_isn (allE cf a)
  | .notn a => ok_notn (allE cf a)
  | .ite c a b => ok_ite (allE cf c) (allE cf a) (allE cf b)
  | .ix a b => ok_ix (allE cf a) (allE cf b)
  | .sl a lo hi => ok_sl (allE cf a) (allEs cf lo) (allEs cf hi)
  | .fld a f => ok_fld (allE cf a)
  | .call f es => ok_call (allEs cf es)
  | .callv i es => ok_callv (allEs cf es)
  | .mk fz C es => ok_mk (allEs cf es)
  | .own m o es => ok_own (allE cf o) (allEs cf es)
  | .isc a cs many => ok_isc (allE cf a)
  | .slen a => ok_slen (allE cf a)
  | .dc fz own k v t it ifs => ok_bad fun S ex => by simp only [okE]
  | .bi b es => ok_bi (allEs cf es)
  | .mt m o es => ok_mt (allE cf o) (allEs cf es)
  | .isi a ts many => ok_isi (allE cf a)
  | .kget o es => ok_kget (allE cf o) (allEs cf es)
  | .bad => ok_never
  | .rev a => ok_rev (allE cf a)
  | .deq a b => ok_deq (allE cf a) (allE cf b)
  | .rep fz a b => ok_rep (allE cf a) (allE cf b)
  | .lc fz own elt t it ifs => ok_lc (allI cf it) (allTg cf t) (allEs cf ifs) (allE cf elt)
theorem allEs (cf : Cf) : ∀ es : Es, OkEs cf es
  | .nil => oks_nil
  | .cons e es => oks_cons (allE cf e) (allEs cf es)
theorem allPs (cf : Cf) : ∀ es : Ps, OkPs cf es
  | .nil => okp_nil
  | .cons k v es => okp_cons (allE cf k) (allE cf v) (allPs cf es)
theorem allTg (cf : Cf) : ∀ t : Tg, OkTg cf t
  | .v i => okt_v
  | .tup ts => okt_tup (allTgs cf ts)
  | .ix a b => okt_ix (allE cf a) (allE cf b)
  | .fld a f => okt_fld
theorem allTgs (cf : Cf) : ∀ t : Tgs, OkTgs cf t
  | .nil => okts_nil
  | .cons t ts => okts_cons (allTg cf t) (allTgs cf ts)
theorem allI (cf : Cf) : ∀ i : DL.I, OkI cf i
  | .e a => oki_e (allE cf a)
  | .rng1 a => oki_rng1 (allE cf a)
  | .rng2 a b => oki_rng2 (allE cf a) (allE cf b)
  | .enum a => oki_enum (allE cf a)
  | .zip a b => oki_zip (allE cf a) (allE cf b)
  | .items a => oki_items (allE cf a)
  | .vals a => oki_vals (allE cf a)
end
end DL

set_option Elab.async false
set_option linter.all false
set_option maxRecDepth 100000
set_option maxHeartbeats 4000000
/-! the deep layer: the checker is right: statements, defs -/
namespace DL
open PySem PySem.Spec PyProof.Rows L2
variable [Wd]

def OkSt (cf : Cf) (s : DL.S) : Prop := ∀ (S : SC) (X : Cx) (W : WX) (st : Stmt), CtxOk cf S X W → okS S s st = true → PS X st (tS X.K W (evS cf s))
def OkHs (cf : Cf) (hs : Hs) : Prop := ∀ (S : SC) (X : Cx) (W : WX) (hds : List ExceptHandler), CtxOk cf S X W → S.tr = true → okHs S hs hds = true → PHs X W hds (evHs cf hs)
def OkSs (cf : Cf) (ss : Ss) : Prop := ∀ (S : SC) (X : Cx) (W : WX) (sts : List Stmt), CtxOk cf S X W → okSs S ss sts = true → PSs X sts (tS X.K W (evSs cf ss))
section
variable {cf : Cf} {a b c e o : E} {es : Es} {x y : Str} {t : Tg} {it : DL.I}
theorem aug_ok {X : Cx} {op : Op2} {q : Operator} (h : augB op q = true) : OpR X (inplaceOp q) (rF2 X.K (aug2 op)) := by
  intro pins s σ H x y v u Q I rx ry ⟨mu, g, d, e, z, S, hx, hy, h1, k⟩
  unfold aug2 at h1
  split at h1
  · rename_i i j e1 e2
    cases q <;> first | cases h | skip
    cases h1
    exact iop_add pins s σ H x y v u Q I rx ry ⟨i, j, rd_int hx e1, rd_int hy e2, k.flat S (.int _)⟩
  · rename_i i j e1 e2
    cases q <;> first | cases h | skip
    cases h1
    exact iop_sub pins s σ H x y v u Q I rx ry ⟨i, j, rd_int hx e1, rd_int hy e2, k.flat S (.int _)⟩
  · cases h1
theorem kind_fn {S : SC} {X : Cx} {W : WX} (c : CtxOk cf S X W) : X.env.scope.kind = .function := c.kind
theorem sw_eq {S : SC} {X : Cx} {W : WX} (c : CtxOk cf S X W) {elt : Expr} {gs : List Comprehension} {scope : Scope} {pos py : Pos} {l : Nat} : swapsWith (.ListComp elt gs scope pos) (some (.Name x py)) l X.env = pure (swLc S x py scope pos) := by
  have hb : X.env.blockKind = .function := by unfold Env.blockKind; rw [c.kind]; rfl
  have hs : X.env.kindOf x = S.sc.names.lookup x := by unfold Env.kindOf; rw [c.sc]
  unfold swapsWith swLc
  simp only [hb, hs, Expr.pos]
  rfl
theorem sole_eq {tg y : Expr} {l : Nat} {env : Env} : swapsWithSole [tg] y l env = swapsWith y (some tg) l env := by
  simp only [swapsWithSole]
theorem okS_ex (Ha : OkE cf a) : OkSt cf (.ex a) := by
  intro S X W st c h
  simp only [okS] at h
  split at h
  · obtain ⟨h1, h2⟩ := bd2 h
    exact ss_ex (Ha S X W _ c h2).1 (swap_no (nt h1))
  · cases h
theorem okS_ret (Ha : OkE cf a) : OkSt cf (.ret a) := by
  intro S X W st c h
  simp only [okS] at h
  split at h
  · exact ss_ret (Ha S X W _ c h).1
  · cases h
theorem okS_retn : OkSt cf .retn := by
  intro S X W st c h
  simp only [okS] at h
  split at h
  · exact ss_retn
  · cases h
theorem okS_pas : OkSt cf .pas := by
  intro S X W st c h
  simp only [okS] at h
  split at h
  · exact ss_pas
  · cases h
theorem okS_brk : OkSt cf .brk := by
  intro S X W st c h
  simp only [okS] at h
  split at h
  · exact ss_brk
  · cases h
theorem okS_cnt : OkSt cf .cnt := by
  intro S X W st c h
  simp only [okS] at h
  split at h
  · exact ss_cnt
  · cases h
theorem okS_fld {f : Str} (Ho : OkE cf o) (Ha : OkE cf a) : OkSt cf (.asg (.fld o f) a) := by
  intro S X W st c h
  simp only [okS, fldB] at h
  split at h
  · obtain ⟨h1, h2⟩ := bd2 h
    obtain ⟨h2, h3⟩ := bd2 h2
    obtain ⟨h3, h4⟩ := bd2 h3
    have := of_decide_eq_true h1
    subst this
    exact ss_fld c.b.fld (Ho S X WN _ c.wn h3).1 (Ha S X W _ c h4).1 (swap_no (nt h2))
  · cases h
theorem okS_asg (Ht : OkTg cf t) (Ha : OkE cf a) (hl : ∀ fz own elt tg it ifs, a = .lc fz own elt tg it ifs → OkTg cf tg ∧ OkI cf it ∧ OkEs cf ifs ∧ OkE cf elt) (hf : ∀ o f, t ≠ .fld o f) : OkSt cf (.asg t a) := by
  intro S X W st c h
  have h' : asgB S t a st = true := by
    cases t with
    | fld o f => exact absurd rfl (hf o f)
    | _ => simpa only [okS] using h
  clear h
  unfold asgB at h'
  split at h'
  · rename_i tg y pos
    obtain ⟨h1, h2⟩ := bd2 h'
    obtain ⟨h2, h3⟩ := bd2 h2
    obtain ⟨h3, h4⟩ := bd2 h3
    obtain ⟨h3, h5⟩ := bd2 h3
    have hg := Ht S X W tg c h1
    have hp := (Ha S X W y c h2).1
    have hw := noSw_ok (a := y) (env := X.env) c.sc c.kind h5
    have ha : (assignEach [tg] X.env).map (·.2) = [assign tg X.env] := by rw [asg_cons (nt h3)]; rfl
    have norm : swapsWith y (some tg) pos.line X.env = pure false → PS X (.Assign [tg] y pos) (tS X.K W (evS cf (.asg t a))) := fun hs => ss_asg hp hg (sole_eq.trans hs) hw ha
    cases tg with
    | Name x py =>
      by_cases hc : compB y = true
      · cases y with
        | ListComp elt gs scope p =>
          simp only at h4
          by_cases hsw : swLc S x py scope p = true
          · rw [if_pos hsw] at h4
            cases t with
            | v i =>
              cases a with
              | lc fz own elt' t' it' ifs' =>
                simp only at h4
                obtain ⟨Ht', Hi', Hf', He'⟩ := hl _ _ _ _ _ _ rfl
                simp only [okE] at h2
                split at h2
                · rename_i x2 tg2 iter2 fs2 scope2 pos2 q
                  cases q
                  obtain ⟨k0, _⟩ := bd2 h2
                  obtain ⟨hc, k0⟩ := bd2 k0
                  obtain ⟨k1, k2⟩ := bd2 k0
                  obtain ⟨k1, k1s⟩ := bd2 k1
                  obtain ⟨k2, k3⟩ := bd2 k2
                  obtain ⟨k2, hk⟩ := bd2 k2
                  obtain ⟨k3, k4⟩ := bd2 k3
                  obtain ⟨k3, hv⟩ := bd2 k3
                  obtain ⟨k4, k5⟩ := bd2 k4
                  have hk := of_decide_eq_true hk
                  have bk : BlkOk X.N X.env.scope scope (ownP S own) := by
                    rw [c.N, c.sc]
                    exact blkOk_by k2
                  have hvs : ∀ i ∈ tgV t', i ∈ (ownP S own).map (·.2) := by
                    rw [ownP_2]
                    intro i hi
                    simpa using List.all_eq_true.mp hv i hi
                  simp only [okTg] at h1
                  obtain ⟨h1a, h1b⟩ := bd2 h1
                  have h1a := of_decide_eq_true h1a
                  have key := ss_lc (fz := fz) (W := W) (py := py) (spos := pos) (y := x) (i0 := i) hvs (c.calm hc) c.nd (by rw [c.N]; exact h1a) (by rw [c.sc]; exact eq_of_beq h4) (by rw [sw_eq c, hsw]) (Hi' S X W tg2 iter2 c k1) bk (fun s H C cl fp => Ht' _ _ WN tg2 (c.blk hk s H C cl fp) k3) (fun s H C cl fp => (Hf' _ _ WN (c.blk hk s H C cl fp)).ifs fs2 k4) (fun s H C cl fp => (He' _ _ WN _ (c.blk hk s H C cl fp) k5).1)
                    (fun v => fold_no (nt k1s) v) (pos := p)
                  rw [ownP_2] at key
                  exact key
                · cases h2
              | _ => simp at h4
            | _ => simp at h4
          · exact norm (by
              rw [sw_eq c]
              congr 1
              simpa using hsw)
        | SetComp _ _ _ _ => simp [compB] at h4
        | DictComp _ _ _ _ _ => simp [compB] at h4
        | _ => simp [compB] at hc
      · exact norm (swap_no (by simpa using hc))
    | _ => exact norm (by cases y <;> rfl)
  · cases h'
theorem okS_par {is : List Nat} (H : OkEs cf es) : OkSt cf (.par is es) := by
  intro S X W st c h
  simp only [okS] at h
  split at h
  · rename_i ts kt pt vs k2 pt2 pos
    obtain ⟨h1, h2⟩ := bd2 h
    obtain ⟨hc, h1⟩ := bd2 h1
    have ha := (H S X W c).pa _ h1
    split at h2
    · rename_i i j x px y py a b
      obtain ⟨q1, q2⟩ := bd2 h2
      obtain ⟨q1, q3⟩ := bd2 q1
      obtain ⟨q1, q4⟩ := bd2 q1
      obtain ⟨q2, q5⟩ := bd2 q2
      obtain ⟨q2, q6⟩ := bd2 q2
      exact ss_par2 (c.calm hc) c.nd (by rw [c.N]; exact of_decide_eq_true q1) (by rw [c.N]; exact of_decide_eq_true q4) (of_decide_eq_true q3) (by rw [c.sc]; exact eq_of_beq q2) (by rw [c.sc]; exact eq_of_beq q6) ha
        (swap_tup c.sc c.kind (of_decide_eq_true q5)) rfl
    · rename_i i j l x px y py z pz a b d
      obtain ⟨q1, q2⟩ := bd2 h2
      obtain ⟨q1, q3⟩ := bd2 q1
      obtain ⟨q1, q4⟩ := bd2 q1
      obtain ⟨q1, q5⟩ := bd2 q1
      obtain ⟨q3, q6⟩ := bd2 q3
      obtain ⟨q6, q7⟩ := bd2 q6
      obtain ⟨q2, q8⟩ := bd2 q2
      obtain ⟨q2, q9⟩ := bd2 q2
      obtain ⟨q9, q10⟩ := bd2 q9
      exact ss_par3 (c.calm hc) c.nd (by rw [c.N]; exact of_decide_eq_true q1) (by rw [c.N]; exact of_decide_eq_true q5) (by rw [c.N]; exact of_decide_eq_true q4) (of_decide_eq_true q3) (of_decide_eq_true q6) (of_decide_eq_true q7)
        (by rw [c.sc]; exact eq_of_beq q2) (by rw [c.sc]; exact eq_of_beq q9) (by rw [c.sc]; exact eq_of_beq q10) ha (swap_tup c.sc c.kind (of_decide_eq_true q8)) rfl
    · cases h2
  · cases h
theorem okS_augv {i : Nat} {op : Op2} (Ha : OkE cf a) : OkSt cf (.augv i op a) := by
  intro S X W st c h
  simp only [okS] at h
  split at h
  · obtain ⟨h1, h2⟩ := bd2 h
    obtain ⟨h2, h3⟩ := bd2 h2
    obtain ⟨h3, h4⟩ := bd2 h3
    obtain ⟨q1, q2⟩ := loc_ok c h2
    exact ss_augv c.nd (by rw [c.N]; exact of_decide_eq_true h1) q1 q2 (aug_ok h3) (Ha S X W _ c h4).1
  · cases h
theorem okS_iff {xs ys : Ss} (Hc : OkE cf o) (Hx : OkSs cf xs) (Hy : OkSs cf ys) : OkSt cf (.iff o xs ys) := by
  intro S X W st c h
  simp only [okS] at h
  split at h
  · obtain ⟨h1, h2⟩ := bd2 h
    obtain ⟨h2, h3⟩ := bd2 h2
    exact ss_iff (Hc S X W _ c h1).2 (Hx S X W _ c h2) (Hy S X W _ c h3)
  · cases h
theorem okS_for {xs : Ss} (Ht : OkTg cf t) (Hi : OkI cf it) (Hx : OkSs cf xs) : OkSt cf (.forr t it xs) := by
  intro S X W st c h
  simp only [okS] at h
  split at h
  · obtain ⟨h1, h2⟩ := bd2 h
    obtain ⟨hc, h1⟩ := bd2 h1
    obtain ⟨h1, h3⟩ := bd2 h1
    obtain ⟨h3, h4⟩ := bd2 h3
    exact ss_for c.po (c.calm hc) (Hi S X W _ _ c h3) (Ht S X W _ c h1) (Hx S X W _ c h2) fun v => fold_no (nt h4) v
  · cases h
theorem okS_whl {xs : Ss} (Hc : OkE cf o) (Hx : OkSs cf xs) : OkSt cf (.whl o xs) := by
  intro S X W st c h
  simp only [okS] at h
  split at h
  · obtain ⟨h1, h2⟩ := bd2 h
    exact ss_whl c.po (Hc S X W _ c h1).2 (Hx S X W _ c h2)
  · cases h
theorem okS_bad {s : DL.S} (h : ∀ S st, okS S s st = false) : OkSt cf s := by
  intro S X W st c q
  rw [h] at q
  cases q
theorem okS_never : OkSt cf .bad := by
  intro S X W st c q
  exact ⟨fun pins s σ H Q I ⟨mu, g, ρ, _, _, h⟩ => by simp only [evS] at h; exact h.elim⟩
theorem okS_rse {C : Str} (H : OkEs cf es) : OkSt cf (.rse C es) := by
  intro S X W st c h
  simp only [okS] at h
  split at h
  · rename_i x p y ys pos pos'
    obtain ⟨hc, h⟩ := bd2 h
    obtain ⟨h1, h2⟩ := bd2 h
    obtain ⟨h2, h3⟩ := bd2 h2
    obtain ⟨k2, hn⟩ := bd2 h2
    obtain ⟨k3, k4⟩ := bd2 h3
    have := of_decide_eq_true h1
    subst this
    have k5 := c.exs _ _ (of_decide_eq_true k4)
    obtain ⟨s1, s2⟩ := all_star (okEs_star k3)
    exact ss_rse0 (exk := cf.exk) (c.calm hc) c.tk k5 (c.b.exk _ _ k5) (gl_ok c k2) ((H S X W c).pa _ k3) (nm_ok hn).1 (star_cons s1) (star_any s2 _)
  · cases h
theorem okS_tri {b : Ss} {hs : Hs} (Hb : OkSs cf b) (Hh : OkHs cf hs) : OkSt cf (.tri b hs) := by
  intro S X W st c h
  simp only [okS] at h
  split at h
  · rename_i body hds pos
    obtain ⟨ht, h⟩ := bd2 h
    obtain ⟨h1, h2⟩ := bd2 h
    obtain ⟨h2, h3⟩ := bd2 h2
    obtain ⟨t1, t2⟩ := c.tr ht
    have hne : hds ≠ [] := by
      intro e
      subst e
      cases h2
    exact ss_tri t1 t2 hne (fun Wb pn xe tk po => Hb S _ Wb _ (c.try_ tk po) h1) (Hh S X W _ c ht h3)
  · cases h
theorem okhs_nil : OkHs cf .nil := by
  intro S X W hds c ht h
  cases hds with
  | nil => exact hs_nil (c.tr ht).1 (c.tr ht).2 c.tk
  | cons _ _ => simp [okHs] at h
theorem okhs_cons {C : Str} {i : Option Nat} {ss : Ss} {hs : Hs} (Hs' : OkSs cf ss) (Hh : OkHs cf hs) : OkHs cf (.cons C i ss hs) := by
  intro S X W hds c ht h
  unfold okHs at h
  split at h
  · rename_i e1; cases e1
  · rename_i C' i' ss' hs' x np nm b0 suite pos' rest e1
    cases e1
    obtain ⟨a1, a2⟩ := bd2 h
    obtain ⟨b1, b2⟩ := bd2 a1
    obtain ⟨d1, d2⟩ := bd2 b2
    obtain ⟨f1, f2⟩ := bd2 d1
    obtain ⟨j1, j2⟩ := bd2 a2
    obtain ⟨l1, l2⟩ := bd2 j2
    have := of_decide_eq_true b1
    subst this
    refine hs_cons (exm := cf.exm) (c.tr ht).1 (c.tr ht).2 c.nd ?_ (gl_ok c f1) (nm_ok f2).1 (fun C' b q => c.b.exm C' _ b q) (fun a pn => Hs' S.suite _ WN _ (c.suite a pn) l1) (Hh S X W _ c ht l2)
    split at j1
    · exact .inl ⟨rfl, rfl⟩
    · rename_i n i
      obtain ⟨m1, m2⟩ := bd2 j1
      exact .inr ⟨n, i, rfl, rfl, by rw [c.N]; exact of_decide_eq_true m1, by rw [c.sc]; exact eq_of_beq m2⟩
    · cases j1
  · cases h
theorem okss_nil : OkSs cf .nil := by
  intro S X W sts c h
  cases sts with
  | nil => exact sss_nil
  | cons _ _ => simp [okSs] at h
theorem okss_cons {s : DL.S} {ss : Ss} (hs : OkSt cf s) (Hs : OkSs cf ss) : OkSs cf (.cons s ss) := by
  intro S X W sts c h
  by_cases hf : ∃ i, s = .frz i
  · obtain ⟨i, rfl⟩ := hf
    simp only [okSs] at h
    exact sss_frz (Hs S X W _ c h)
  · cases sts with
    | nil => cases s <;> first | exact absurd ⟨_, rfl⟩ hf | simp [okSs] at h
    | cons st sts =>
      have h' : (okS S s st && okSs S ss sts) = true := by
        cases s <;> first | exact absurd ⟨_, rfl⟩ hf | simpa only [okSs] using h
      obtain ⟨h1, h2⟩ := bd2 h'
      exact sss_cons (hs S X W _ c h1) (Hs S X W _ c h2)
end
theorem allAsg (cf : Cf) (t : Tg) (a : E) : OkSt cf (.asg t a) := by
  by_cases hf : ∃ o f, t = .fld o f
  · obtain ⟨o, f, rfl⟩ := hf
    exact okS_fld (allE cf o) (allE cf a)
  · exact okS_asg (allTg cf t) (allE cf a) (fun fz own elt tg it ifs _ => ⟨allTg cf tg, allI cf it, allEs cf ifs, allE cf elt⟩) fun o f e => hf ⟨o, f, e⟩
mutual
theorem allS (cf : Cf) : ∀ s : DL.S, OkSt cf s
  | .ex a => okS_ex (allE cf a)
  | .ret a => okS_ret (allE cf a)
  | .retn => okS_retn
  | .asg t a => allAsg cf t a
  | .par is es => okS_par (allEs cf es)
  | .augv i op a => okS_augv (allE cf a)
  | .augf o f op a => okS_bad fun S st => by simp only [okS]
  | .iff c a b => okS_iff (allE cf c) (allSs cf a) (allSs cf b)
  | .forr t it b => okS_for (allTg cf t) (allI cf it) (allSs cf b)
  | .whl c b => okS_whl (allE cf c) (allSs cf b)
  | .brk => okS_brk
  | .cnt => okS_cnt
  | .pas => okS_pas
  | .rse C es => okS_rse (allEs cf es)
  | .tri b hs => okS_tri (allSs cf b) (allHs cf hs)
  | .frz i => okS_bad fun S st => by simp only [okS]
  | .bad => okS_never
theorem allSs (cf : Cf) : ∀ ss : Ss, OkSs cf ss
  | .nil => okss_nil
  | .cons s ss => okss_cons (allS cf s) (allSs cf ss)
theorem allHs (cf : Cf) : ∀ hs : Hs, OkHs cf hs
  | .nil => okhs_nil
  | .cons C i ss hs => okhs_cons (allSs cf ss) (allHs cf hs)
end
end DL

set_option Elab.async false
set_option linter.all false
set_option maxRecDepth 100000
set_option maxHeartbeats 4000000
/-! the deep layer: a table of defs, the end -/
namespace DL
open PySem PySem.Spec PyProof.Rows L2

structure Def where
  ar : Nat
  nn : Nat
  body : Ss
  df : List D
  own : Option (Str × Str)
structure Tb where
  defs : List (Str × Def)
  glob : List (Str × D)
  kd : List (Str × List (Str × D))
  flds : List (Str × List Str)
  free : List Str
  wf : Nat
  mets : List ((Str × Str) × Str)
  inits : List (Str × Str)
  exk : List (Str × List Str)
  isi : List ((Str × Str) × Bool)
  isx : List ((Str × Str) × Bool)
  exm : List ((Str × Str) × Bool)
  cls : List Str
def Tb.fld (T : Tb) (C f : Str) : Bool := match T.flds.lookup C with
  | some fs => fs.contains f
  | none => false
def Tb.kdL (T : Tb) (n z : Str) : Option D := match T.kd.lookup n with
  | some l => l.lookup z
  | none => none
/-- may it be called so: by its name, or as a method -/
def okG (T : Tb) (own : Bool) (f : Str) (n : Nat) : Bool := match T.defs.lookup f with
  | some d => (d.own.isSome == own) && (decide (n ≤ d.ar) && decide (d.ar ≤ n + d.df.length))
  | none => false
def callN (T : Tb) (F : Def → List D → M D) (f : Str) (ds : List D) : M D := match T.defs.lookup f with
  | some d => if ds.length ≤ d.ar ∧ d.ar ≤ ds.length + d.df.length then F d (ds ++ d.df.drop (ds.length + d.df.length - d.ar)) else M.bad
  | none => M.bad
def Tb.cf (T : Tb) (F : Def → List D → M D) : Cf where
  ok := okG T false
  okm := okG T true
  glob := fun x => T.glob.lookup x
  kd := T.kdL
  kt := fun n => T.kd.lookup n
  call := callN T F
  meth := fun C m => T.mets.lookup (C, m)
  init := fun C => T.inits.lookup C
  exk := fun C => T.exk.lookup C
  isi := fun C c => T.isi.lookup (C, c)
  isx := fun C c => T.isx.lookup (C, c)
  exm := fun C c => T.exm.lookup (C, c)
  fld := T.fld
  wf := T.wf
def bodyF (ev : Ss → Env' → M (Fl × Env')) (d : Def) (xs : List D) : M D := fun g => runB (ev d.body (start0 d.nn xs) g)
def cfN (T : Tb) : Nat → Cf
  | 0 => T.cf fun _ _ => M.bad
  | n + 1 => T.cf (bodyF (evSs (cfN T n)))
def fN (T : Tb) : Nat → Def → List D → M D
  | 0 => fun _ _ => M.bad
  | n + 1 => bodyF (evSs (cfN T n))
theorem cfN_eq (T : Tb) (n : Nat) : cfN T n = T.cf (fN T n) := by cases n <;> rfl
/-- where a def stands -/
def adr (K : PySem.W.Frag) (x : Str) (d : Def) : Addr := match d.own with
  | none => He.ga K x
  | some (C, m) => He.ma K (He.ga K C) m
def scOf (T : Tb) (sc : Scope) (N : List Str) : SC := { sc := sc, N := N, fn := fun _ => true, ok := okG T false, free := T.free, cls := T.cls, mks := T.inits.map (·.1), exs := T.exk, calm := true, tr := true }
theorem lookup_map {α β : Type} (f : α → β) (x : Str) : ∀ l : List (Str × α), (l.map fun p => (p.1, f p.2)).lookup x = (l.lookup x).map f
  | [] => rfl
  | (y, a) :: l => by
    simp only [List.map_cons, List.lookup_cons]
    cases x == y with
    | true => rfl
    | false => exact lookup_map f x l
/-- a def of the text by its datum -/
structure DefOk [Wd] (T : Tb) (K : PySem.W.Frag) (mg : Str → Option Value) (x : Str) (d : Def) : Prop where
  ex : ∃ (name qual : Str) (params : Arguments) (body : List Stmt) (scope : Scope) (N ps : List Str) (fd : FuncData) (dvs : List V), FunD K name qual params body scope dvs [] (adr K x d) fd ∧ FnScope N ps scope ∧ N.length = d.nn ∧ ps.length = d.ar ∧
    (∀ own mu H, RVs K own mu H dvs d.df) ∧ (∀ n, n ≤ d.ar → d.ar ≤ n + d.df.length → ∃ ds, Vals (dvs.drop (n + d.df.length - d.ar)) ds ∧ Binds K fd ps ds) ∧ (d.df = [] → ∀ (s : Shared) (us : List Value), us.length = ps.length → BindsTo s fd ⟨us, []⟩ (ps.zip us)) ∧
    okSs (scOf T scope N) d.body body = true
  gl : d.own = none → mg x = some (.ref (He.ga K x))
/-- what is asked of the module -/
structure ModOk [Wd] (T : Tb) (w : World) (K : PySem.W.Frag) (mg : Str → Option Value) : Prop where
  defs : ∀ x d, T.defs.lookup x = some d → DefOk T K mg x d
  glob : ∀ x d, T.glob.lookup x = some d → ∃ u v, mg x = some u ∧ RelV v u ∧ ∀ own mu H, RV K own mu H v d
  kd : ∀ n z d, T.kdL n z = some d → ∃ v, KDct K w (He.ga K n) z v ∧ ∀ own mu H, RV K own mu H v d
  kt : ∀ n l, T.kd.lookup n = some l → ∃ lv, KTab K w (He.ga K n) lv ∧ ∀ z, (∃ d v, l.lookup z = some d ∧ lv.lookup z = some v ∧ ∀ own mu H, RV K own mu H v d) ∨ (l.lookup z = none ∧ lv.lookup z = none)
  fld : ∀ C f, T.fld C f = true → Cls K (He.ga K C) ∧ NoAttr K (He.ga K C) f
  free : ∀ x, x ∈ T.free → mg x = none
  mets : ∀ C m key, T.mets.lookup (C, m) = some key → (∃ d, T.defs.lookup key = some d ∧ d.own = some (C, m)) ∧ Cls K (He.ga K C) ∧ Meth K (He.ga K C) m (He.ma K (He.ga K C) m)
  inits : ∀ C key, C ∈ T.inits.map (·.1) → (T.inits.lookup C = some key → ∃ d, T.defs.lookup key = some d ∧ d.own = some (C, ("__init__" : Str))) ∧ mg C = some (.ref (He.ga K C)) ∧ Mk K (He.ga K C) (He.ma K (He.ga K C) "__init__")
  isi : ∀ C c b, T.isi.lookup (C, c) = some b → PySem.W.kitOne K (.ref (He.ga K C)) (clV K c) = some b ∧ Cls K (He.ga K C) ∧ InsC K (He.ga K C)
  isx : ∀ C c b, T.isx.lookup (C, c) = some b → PySem.W.kitOne K (.ref (He.ga K C)) (clV K c) = some b ∧ ExcC K (He.ga K C)
  exm : ∀ C c b, T.exm.lookup (C, c) = some b → mg c = some (.ref (He.ga K c)) ∧ PySem.W.exmOne K (.ref (He.ga K C)) (.ref (He.ga K c)) = some b
  exk : ∀ C fs, T.exk.lookup C = some fs → mg C = some (.ref (He.ga K C)) ∧ ExcK K (He.ga K C) fs
  cls : ∀ x, x ∈ T.cls → mg x = some (.ref (He.ga K x))
section
variable {T : Tb} {P : Program} {w : World} {K : PySem.W.Frag} {mg : Str → Option Value}
theorem lookup_in {α : Type} {x : Str} {a : α} : ∀ {l : List (Str × α)}, l.lookup x = some a → x ∈ l.map (·.1)
  | (y, b) :: l, h => by
    rw [List.lookup_cons] at h
    cases e : x == y with
    | true => rw [eq_of_beq e]; exact List.mem_cons_self ..
    | false => rw [e] at h; exact List.mem_cons_of_mem _ (lookup_in h)
theorem in_lookup {α : Type} {x : Str} : ∀ {l : List (Str × α)}, x ∈ l.map (·.1) → l.lookup x ≠ none
  | (y, b) :: l, h => by
    rw [List.lookup_cons]
    cases e : x == y with
    | true => exact fun z => nomatch z
    | false =>
      rcases List.mem_cons.mp h with q | q
      · subst q; simp at e
      · exact in_lookup q
def CalD [Wd] (T : Tb) (P : Program) (w : World) (K : PySem.W.Frag) (mg : Str → Option Value) (n : Nat) (f : Str) (d : Def) : Prop := PySem.W.keepIn K (.ref (adr K f d)) = true ∧
    ∃ fd ps dvs, (∀ base : Heap, FnOk P w K mg base (L2.CX P w) (2 * n + 1) (adr K f d) fd ps (spD K d.ar (fN T n d))) ∧ ps.length = d.ar ∧ (∀ own mu H, RVs K own mu H dvs d.df) ∧
      (∀ n, n ≤ d.ar → d.ar ≤ n + d.df.length → ∃ ds, Vals (dvs.drop (n + d.df.length - d.ar)) ds ∧ Binds K fd ps ds) ∧ (d.df = [] → ∀ (s : Shared) (us : List Value), us.length = ps.length → BindsTo s fd ⟨us, []⟩ (ps.zip us))
theorem CalD.cal [Wd] {n k : Nat} {f : Str} {d : Def} {base : Heap} (c : CalD T P w K mg n f d) (hd : T.defs.lookup f = some d) (h1 : k ≤ d.ar) (h2 : d.ar ≤ k + d.df.length) : Cal P w K mg base (2 * n + 1) (adr K f d) k ((cfN T n).call f) := by
  obtain ⟨kp, fd, ps, dvs, F, hp, rd, hb, _⟩ := c
  obtain ⟨ds, hv, hB⟩ := hb k h1 h2
  have e : k + (d.df.drop (k + d.df.length - d.ar)).length = d.ar := by rw [List.length_drop]; omega
  refine ⟨⟨fd, ps, ds, dvs.drop (k + d.df.length - d.ar), d.df.drop (k + d.df.length - d.ar), fN T n d, by rw [e]; exact F base, hB, hv, fun own mu H => (rd own mu H).drop _, fun xs hx => ?_⟩, kp⟩
  rw [cfN_eq]
  show callN T (fN T n) f xs = _
  unfold callN
  rw [hd]
  simp only
  rw [hx, if_pos ⟨h1, h2⟩]
theorem okG_ok {own : Bool} {f : Str} {n : Nat} (h : okG T own f n = true) : ∃ d, T.defs.lookup f = some d ∧ (d.own.isSome = own) ∧ n ≤ d.ar ∧ d.ar ≤ n + d.df.length := by
  unfold okG at h
  split at h
  · rename_i d hd
    simp only [Bool.and_eq_true, decide_eq_true_eq, beq_iff_eq] at h
    exact ⟨d, hd, h.1, h.2.1, h.2.2⟩
  · cases h
theorem base_ok [Wd] {n : Nat} {base : Heap} {A : Around} (m : ModOk T w K mg) (hr : Room (2 * n + 2) A) (ih : ∀ f d, T.defs.lookup f = some d → CalD T P w K mg n f d) : BaseOk (cfN T n) P w K mg base A true := by
  have hro : Room (2 * n + 1) A := hr.mono (by omega)
  rw [cfN_eq]
  refine ⟨fun _ f k h => ?_, fun _ C mm key k h1 h2 => ?_, fun _ C key k h1 h2 => ?_, m.glob, m.kd, m.kt, m.fld, m.isi, m.isx, m.exm, m.exk⟩
  · obtain ⟨d, hd, ho, h1, h2⟩ := okG_ok (show okG T false f k = true from h)
    have ho : d.own = none := by simpa using ho
    have c := (ih f d hd).cal (base := base) hd h1 h2
    rw [cfN_eq] at c
    have ea : adr K f d = He.ga K f := by unfold adr; rw [ho]
    rw [ea] at c
    exact ⟨2 * n + 1, hro, (m.defs f d hd).gl ho, c⟩
  · obtain ⟨d, hd, _, q1, q2⟩ := okG_ok (show okG T true key k = true from h2)
    obtain ⟨⟨d', hd', ho⟩, cl, mt⟩ := m.mets C mm key h1
    rw [hd] at hd'; cases hd'
    have c := (ih key d hd).cal (base := base) hd q1 q2
    rw [cfN_eq] at c
    have ea : adr K key d = He.ma K (He.ga K C) mm := by unfold adr; rw [ho]
    rw [ea] at c
    exact ⟨cl, mt, 2 * n + 1, hro, c⟩
  · obtain ⟨d, hd, _, q1, q2⟩ := okG_ok (show okG T true key k = true from h2)
    obtain ⟨hx, hm, mk⟩ := m.inits C key (lookup_in h1)
    obtain ⟨d', hd', ho⟩ := hx h1
    rw [hd] at hd'; cases hd'
    have c := (ih key d hd).cal (base := base) hd q1 q2
    rw [cfN_eq] at c
    have ea : adr K key d = He.ma K (He.ga K C) "__init__" := by unfold adr; rw [ho]
    rw [ea] at c
    exact ⟨hm, mk, 2 * n + 1, hr, c⟩
theorem cal_ok' [Wd] (hwd : w = Wd.w) (m : ModOk T w K mg) : ∀ (n : Nat) (f : Str) (d : Def), T.defs.lookup f = some d → CalD T P w K mg n f d := by
  intro n
  induction n with
  | zero =>
    intro f d hd
    obtain ⟨name, qual, params, body, scope, N, ps, fd, dvs, F, S, h1, h2, rd, hb, hb0, h3⟩ := (m.defs f d hd).ex
    exact ⟨F.kp, fd, ps, dvs, fun base => F.ok S (fun vs H Q E h => by rw [h2]; exact h.1) fun cdv A outer s H vs Q E hr ⟨_, mu, g, ds, S, r, h⟩ => h.elim, h2, rd, hb, hb0⟩
  | succ n ih =>
    intro f d hd
    obtain ⟨name, qual, params, body, scope, N, ps, fd, dvs, F, S, h1, h2, rd, hb, hb0, h3⟩ := (m.defs f d hd).ex
    refine ⟨F.kp, fd, ps, dvs, fun base => ?_, h2, rd, hb, hb0⟩
    show FnOk P w K mg base (L2.CX P w) (2 * n + 2 + 1) (adr K f d) fd ps _
    refine F.ok S (fun vs H Q E h => by rw [h2]; exact h.1) fun cdv A outer s H vs Q E hr ⟨hl, mu, g, ds, Si, r, h⟩ => ?_
    let X := cxOf (L2.CX P w) P w K mg base N qual scope (adr K f d) cdv A outer s H E
    have c : CtxOk (cfN T n) (scOf T scope N) X (fun c d _ H => E c d H) := by
      have hB : BaseOk (cfN T n) P w K mg base X.A true := base_ok m hr ih
      have hu : X.A.units + 64 < cLine := by
        have := hr.un
        show (A.deeper (envOfC qual scope s.heap.objs.size (adr K f d) cdv)).units + 64 < cLine
        omega
      refine ⟨hB, hwd, hu, fun _ => rfl, S.nd, takes_of rfl rfl rfl rfl, passes_of rfl, rfl, S.kind, rfl, fun _ _ => rfl, fun f k h => ?_, m.free, m.cls, fun x hx => ?_, fun x fs h => ?_, fun _ => ⟨rfl, rfl⟩⟩
      · rw [cfN_eq]; exact h
      · have hx : x ∈ T.inits.map (·.1) := hx
        obtain ⟨_, hm, mk⟩ := m.inits x "" hx
        rw [cfN_eq]
        exact ⟨in_lookup hx, hm, mk.kp⟩
      · rw [cfN_eq]; exact h
    refine ⟨tS K (fun c d _ H => E c d H) (evSs (cfN T n) d.body), allSs (cfN T n) d.body _ X _ body c h3, mu, g, start0 N.length ds, Si, start_ok r, ?_⟩
    rw [h1]
    exact runB_ok h
end

/-! ### the end -/
theorem cx_no {P : Program} {w : World} {H : Hp} {s : Shared} {e : Value} {s' : Shared} (h : L2.CX P w [] H s (fun _ _ _ => False) e s') : False := by
  obtain ⟨_, _, _, _, _, _, _, _, _, _, _, _, z⟩ := h
  exact z
theorem walk_D {l : PySem.W.OpenLaw} {m : Nat} {q : Program} {loose : List Str} {XP : (Str → Option Value) → Heap → Prop} {YP : World → Heap → Prop} {d : DefRec} {T : Tb} {x : Str} {dd : Def} (n : Nat)
    (hn : l.most = some m) (hn2 : m ≤ sizeLine) (hdf : d.params.defaults = []) (hr : 2 * n + 1 ≤ 200) (hx : d.name = x)
    (F : ∀ (w : World) (mg : Str → Option Value) (h : Heap), YP w h → h.Ns mainGlobals mg → ∃ K : PySem.W.Frag, K.In h ∧ @ModOk ⟨w⟩ T w K mg)
    (hdd : T.defs.lookup x = some dd) (har : (dd.ar == 1 && (dd.df.isEmpty && dd.own.isNone)) = true)
    (law : ∀ ns : List Int, ns.length ≤ m → (∀ k ∈ ns, Builtin.Int.intBits k ≤ 1048576) → ∃ g', (cfN T n).call x [.lst (ns.map D.int)] [] = .ok (.bl true) g') :
    PySem.W.WalkO q loose XP YP l.row.toRowW d [] (fun f vs => PySem.call f vs) := by
  subst hx
  obtain ⟨h1, h2⟩ := Bool.and_eq_true_iff.mp har
  obtain ⟨h2, h3⟩ := Bool.and_eq_true_iff.mp h2
  have h1 : dd.ar = 1 := eq_of_beq h1
  have h2 : dd.df = [] := by simpa using h2
  have h3 : dd.own = none := by simpa using h3
  have hroom : Room (2 * n + 1) callerA := Room.mono ⟨rfl, by decide, by decide⟩ hr
  refine Att.attach_callB hn hdf fun w s₀ s₁ mg mb fa o pm cd doc a vs ns G Y ho hd hcd hmg hobj hints hlen hbits hg => ?_
  obtain ⟨K, KX, M⟩ := F w mg _ Y G.T.g
  letI : Wd := ⟨w⟩
  have hg0 := (M.defs d.name dd hdd).gl h3
  have efa : fa = He.ga K d.name := by
    rw [hg0] at hmg
    cases hmg
    rfl
  subst efa
  -- the function object is the same over every base
  have fix : ∃ fd y, (∀ (s : Shared) (u : Value), BindsTo s fd ⟨[u], []⟩ [(y, u)]) ∧ ∀ base : Heap, FnOk l.prog w K mg base (L2.CX l.prog w) (2 * n + 1) (He.ga K d.name) fd [y] (spD K 1 ((cfN T n).call d.name)) := by
    obtain ⟨_, fd, ps, dvs, e3, e1, _, _, e2⟩ := cal_ok' (P := l.prog) (rfl : w = Wd.w) M n d.name dd hdd
    rw [h1] at e1 e3
    obtain ⟨y, rfl⟩ : ∃ y, ps = [y] := by
      cases ps with
      | nil => cases e1
      | cons y r =>
        cases r with
        | nil => exact ⟨y, rfl⟩
        | cons _ _ => cases e1
    refine ⟨fd, y, fun s u => e2 h2 s [u] rfl, fun base => ?_⟩
    have f := e3 base
    have ea : adr K d.name dd = He.ga K d.name := by unfold adr; rw [h3]
    rw [ea] at f
    refine f.imp fun vs H Q E ⟨hl, mu, g, ds, S, r, h⟩ => ⟨hl, mu, g, ds, S, r, ?_⟩
    have e4 : (cfN T n).call d.name ds = fN T n dd ds := by
      rw [cfN_eq]
      show callN T (fN T n) d.name ds = _
      unfold callN
      rw [hdd]
      simp only
      rw [← r.length, hl, h1, h2, if_pos ⟨Nat.le_refl _, Nat.le_add_right _ _⟩]
      simp
    rw [e4] at h
    exact h
  obtain ⟨fd, y, hb, hF⟩ := fix
  refine law_call (sp := spD K 1 ((cfN T n).call d.name)) (CX := L2.CX l.prog w) KX G.T.g G.T.b G.T.builtins G.T.nolimit hg hobj hints (Nat.le_trans hlen hn2) hroom (fun base _ _ => hF base) hb (fun H hO hS => ?_) fun H e s' h => cx_no h
  obtain ⟨g', e⟩ := law ns hlen hbits
  refine ⟨rfl, [], [], [.lst (ns.map D.int)], ⟨rfl, .nil, fun n o a h => by simp at h⟩, .cons (.lst ?_ (RVs.ofInts ns)) .nil, ?_⟩
  · rcases hS with h | h
    · exact .inl ⟨fun ⟨n, o, h1, _⟩ => by simp at h1, h⟩
    · exact .inr h
  · rw [e]
    exact fun mu' H' e' S' v rv => rv.bl_inv
end DL

set_option Elab.async false
set_option linter.all false
set_option maxRecDepth 100000
set_option maxHeartbeats 4000000
/-! the deep layer: what the head tells -/
namespace DL
open PySem PySem.Spec PyProof.Rows L2

theorem zip_lookup : ∀ {ps : List Str} {us : List Value} {x : Str}, us.length = ps.length → x ∈ ps → ((ps.zip us).lookup x).isNone = false
  | [], _, _, _, h => by cases h
  | p :: ps, [], _, hl, _ => by cases hl
  | p :: ps, u :: us, x, hl, h => by
    rw [List.zip_cons_cons, List.lookup_cons]
    cases e : x == p with
    | true => rfl
    | false =>
      rcases List.mem_cons.mp h with q | q
      · subst q
        simp at e
      · exact zip_lookup (by simpa using hl) q
theorem zip_missing {ps : List Str} {us : List Value} (hl : us.length = ps.length) : ps.filter (fun n => ((ps.zip us).lookup n).isNone) = [] := by
  rw [List.filter_eq_nil_iff]
  intro a ha
  rw [zip_lookup hl ha]
  exact Bool.false_ne_true
theorem fm_congr {α β : Type} {f g : α → Option β} : ∀ {l : List α}, (∀ x ∈ l, f x = g x) → l.filterMap f = l.filterMap g
  | [], _ => rfl
  | a :: l, h => by
    rw [List.filterMap_cons, List.filterMap_cons, h a (List.mem_cons_self ..), fm_congr fun x hx => h x (List.mem_cons_of_mem _ hx)]
theorem zip_fm : ∀ {ps : List Str} {us : List Value}, ps.Nodup → us.length = ps.length → ps.filterMap (fun n => Option.map (fun v => (n, v)) (List.lookup n (ps.zip us))) = ps.zip us
  | [], _, _, _ => rfl
  | p :: ps, [], _, hl => by cases hl
  | p :: ps, u :: us, hn, hl => by
    obtain ⟨h1, h2⟩ := List.nodup_cons.mp hn
    rw [List.zip_cons_cons, List.filterMap_cons]
    have e1 : List.lookup p ((p, u) :: ps.zip us) = some u := by simp [List.lookup_cons]
    rw [e1]
    simp only [Option.map_some]
    congr 1
    refine Eq.trans (fm_congr fun n hmem => ?_) (zip_fm h2 (by simpa using hl))
    rw [List.lookup_cons]
    cases e : n == p with
    | true =>
      have := eq_of_beq e
      subst this
      exact absurd hmem h1
    | false => rfl
theorem bind_plain {x q : Str} {args : List Arg} {body : List Stmt} {scope : Scope} {kV doc pm cdv ct : Value} {an : Option Addr} {us : List Value} (hn : (args.map (·.arg)).Nodup) (hl : us.length = (args.map (·.arg)).length) :
    bindArgs (PySem.W.fnOf x q ⟨[], args, none, [], [], none, []⟩ body scope .none kV doc pm an cdv ct) ⟨us, []⟩ = pure ((args.map (·.arg)).zip us) := by
  have hl2 : us.length = args.length := by simpa using hl
  unfold bindArgs PySem.W.fnOf
  have hs : seqItems? .none = pure none := rfl
  have hgt : ¬ (us.length > (args.map (·.arg)).length) := by omega
  simp only [List.map_nil, List.nil_append, hs, List.forIn_nil, pure_bind, Option.getD_none, hgt, List.length_nil, Nat.zero_le, Nat.sub_eq_zero_of_le, List.drop_nil, Nat.sub_zero, List.take_length, List.zip_nil_right, List.append_nil, zip_missing hl, decide_false, Bool.false_and, Bool.false_eq_true, if_false, List.isEmpty_nil, Bool.not_true]
  rw [zip_fm hn hl]

/-! ### defaults -/
theorem zl1 {x : Str} : ∀ {P : List Str} {us : List Value}, x ∈ P.take us.length → ((P.zip us).lookup x).isNone = false
  | [], us, h => by simp at h
  | p :: P, [], h => by simp at h
  | p :: P, u :: us, h => by
    rw [List.zip_cons_cons, List.lookup_cons]
    cases e : x == p with
    | true => rfl
    | false =>
      rw [List.length_cons, List.take_succ_cons] at h
      rcases List.mem_cons.mp h with q | q
      · subst q; simp at e
      · exact zl1 q
theorem zl2 {x : Str} : ∀ {P : List Str} {us : List Value}, P.Nodup → x ∈ P.drop us.length → (P.zip us).lookup x = none
  | [], us, _, h => by simp at h
  | p :: P, [], _, h => rfl
  | p :: P, u :: us, nd, h => by
    obtain ⟨h1, h2⟩ := List.nodup_cons.mp nd
    rw [List.length_cons, List.drop_succ_cons] at h
    rw [List.zip_cons_cons, List.lookup_cons]
    cases e : x == p with
    | true =>
      rw [eq_of_beq e] at h
      exact absurd (List.mem_of_mem_drop h) h1
    | false => exact zl2 h2 h
theorem zip_app : ∀ {P : List Str} {us ws : List Value}, P.zip us ++ (P.drop us.length).zip ws = P.zip (us ++ ws)
  | [], us, ws => by simp
  | p :: P, [], ws => by simp
  | p :: P, u :: us, ws => by
    rw [List.length_cons, List.drop_succ_cons, List.zip_cons_cons, List.cons_append, List.cons_append, List.zip_cons_cons, zip_app]
theorem lookup_app {x : Str} : ∀ {l r : List (Str × Value)}, l.lookup x = none → (l ++ r).lookup x = r.lookup x
  | [], _, _ => rfl
  | (y, v) :: l, r, h => by
    rw [List.lookup_cons] at h
    rw [List.cons_append, List.lookup_cons]
    cases e : x == y with
    | true => rw [e] at h; cases h
    | false => rw [e] at h; exact lookup_app h
def dflStep (x : Str × Value) (s : List (Str × Value)) : Sem (ForInStep (List (Str × Value))) := if (List.lookup x.fst s).isNone = true then pure (ForInStep.yield (s ++ [(x.fst, x.snd)])) else pure (ForInStep.yield s)
theorem loopB : ∀ (L acc : List (Str × Value)), (L.map (·.1)).Nodup → (∀ p ∈ L, acc.lookup p.1 = none) → forIn L acc dflStep = (pure (acc ++ L) : Sem (List (Str × Value)))
  | [], acc, _, _ => by rw [List.forIn_nil, List.append_nil]
  | p :: L, acc, nd, h => by
    obtain ⟨h1, h2⟩ := List.nodup_cons.mp nd
    have e : dflStep p acc = pure (ForInStep.yield (acc ++ [p])) := by
      unfold dflStep
      rw [h p (List.mem_cons_self ..)]
      rfl
    rw [List.forIn_cons, e, pure_bind]
    refine (loopB L (acc ++ [p]) h2 fun q hq => ?_).trans (by rw [List.append_assoc]; rfl)
    rw [lookup_app (h q (List.mem_cons_of_mem _ hq)), List.lookup_cons]
    cases z : q.1 == p.1 with
    | true => exact absurd (by show p.1 ∈ _; rw [← eq_of_beq z]; exact List.mem_map_of_mem hq) h1
    | false => rfl
theorem loopA {R acc : List (Str × Value)} {r : Sem (List (Str × Value))} (hr : forIn R acc dflStep = r) : ∀ L : List (Str × Value), (∀ p ∈ L, (acc.lookup p.1).isNone = false) → forIn (L ++ R) acc dflStep = r
  | [], _ => hr
  | p :: L, h => by
    have e : dflStep p acc = pure (ForInStep.yield acc) := by
      unfold dflStep
      rw [h p (List.mem_cons_self ..)]
      rfl
    rw [List.cons_append, List.forIn_cons, e, pure_bind]
    exact loopA hr L fun q hq => h q (List.mem_cons_of_mem _ hq)
theorem loopD {P : List Str} {us its : List Value} (hn : P.Nodup) (h1 : us.length ≤ P.length) (h2 : P.length ≤ us.length + its.length) (h3 : its.length ≤ P.length) :
    forIn ((P.drop (P.length - its.length)).zip its) (P.zip us) dflStep = (pure (P.zip (us ++ its.drop (us.length + its.length - P.length))) : Sem (List (Str × Value))) := by
  have hj : (us.length + its.length - P.length) + (P.length - its.length) = us.length := by omega
  generalize hJ : us.length + its.length - P.length = j at hj ⊢
  have hjl : j ≤ its.length := by omega
  have e1 : (P.drop (P.length - its.length)).zip its = ((P.drop (P.length - its.length)).take j).zip (its.take j) ++ (P.drop us.length).zip (its.drop j) := by
    have := List.zip_append (l₁ := (P.drop (P.length - its.length)).take j) (l₂ := its.take j) (r₁ := (P.drop (P.length - its.length)).drop j) (r₂ := its.drop j) (by rw [List.length_take, List.length_take, List.length_drop]; omega)
    rw [List.take_append_drop, List.take_append_drop, List.drop_drop] at this
    rw [this, show P.length - its.length + j = us.length by omega]
  rw [e1]
  refine loopA ?_ _ fun p hp => ?_
  · rw [loopB _ _ ?_ fun p hp => zl2 hn (List.of_mem_zip hp).1, zip_app]
    rw [List.map_fst_zip (by rw [List.length_drop, List.length_drop]; omega)]
    exact hn.sublist (List.drop_sublist _ _)
  · have hp := (List.of_mem_zip hp).1
    refine zl1 ?_
    rw [← hj, Nat.add_comm, List.take_add]
    exact List.mem_append_right _ hp
theorem bind_dfl {x q : Str} {args : List Arg} {dfl : List Expr} {body : List Stmt} {scope : Scope} {kV doc pm cdv ct : Value} {an : Option Addr} {us its : List Value} {T : Addr} (hn : (args.map (·.arg)).Nodup) (h1 : us.length ≤ (args.map (·.arg)).length) (h2 : (args.map (·.arg)).length ≤ us.length + its.length) (h3 : its.length ≤ (args.map (·.arg)).length) :
    ∃ k, bindArgs (PySem.W.fnOf x q ⟨[], args, none, [], [], none, dfl⟩ body scope (.ref T) kV doc pm an cdv ct) ⟨us, []⟩ = seqItems? (.ref T) >>= k ∧ k (some its.toArray) = pure ((args.map (·.arg)).zip (us ++ its.drop (us.length + its.length - (args.map (·.arg)).length))) := by
  refine ⟨?k, ?a, ?b⟩
  case a =>
    unfold bindArgs PySem.W.fnOf
    simp only [List.forIn_nil, pure_bind]
    exact rfl
  case b =>
    generalize args.map (·.arg) = P at hn h1 h2 h3 ⊢
    have hgt : ¬ (us.length > P.length) := by omega
    have hm : List.filter (fun n => (List.lookup n (P.zip us)).isNone) (List.take (P.length - its.length) P) = [] := by
      rw [List.filter_eq_nil_iff]
      intro a ha
      rw [zl1 (List.take_subset_take_left P (by omega) ha)]
      exact Bool.false_ne_true
    have e0 : its.length - P.length = 0 := by omega
    have hl := loopD hn h1 h2 h3
    have hf := zip_fm (us := us ++ its.drop (us.length + its.length - P.length)) hn (by rw [List.length_append, List.length_drop]; omega)
    unfold dflStep at hl
    simp only [Option.getD_some, List.map_nil, List.nil_append, List.length_nil, hgt, decide_false, Bool.false_and, Bool.false_eq_true, if_false, e0, List.drop_zero, hm, List.isEmpty_nil, Bool.not_true, hl, pure_bind, List.forIn_nil, List.append_nil]
    rw [hf]
/-! ### values of the module -/
mutual
def conD (K : PySem.W.Frag) : D → Value → Bool
  | .non, .none => true
  | .bl b, .bool c => b == c
  | .int i, .int j _ => decide (i = j)
  | .str x, .str y _ => decide (x = y)
  | .fn x, .ref a => decide (a = He.ga K x)
  | .tup ds, .ref a => (match K.lookup a with
    | some ⟨.type c, _, .seq its _, _⟩ => decide (c = "tuple") && (decide (its.size ≤ sizeLine) && conDs K ds its.toList)
    | _ => false)
  | .lst ds, .ref a => (match K.lookup a with
    | some ⟨.type c, none, .seq its _, _⟩ => decide (c = "list") && (decide (its.size ≤ sizeLine) && conDs K ds its.toList)
    | _ => false)
  | _, _ => false
def conDs (K : PySem.W.Frag) : List D → List Value → Bool
  | [], [] => true
  | d :: ds, u :: us => conD K d u && conDs K ds us
  | _, _ => false
end
mutual
theorem conD_ok [Wd] {K : PySem.W.Frag} : ∀ {d : D} {u : Value}, conD K d u = true → ∃ v, RelV v u ∧ ∀ own mu H, RV K own mu H v d
  | .non, u, h => by
    cases u <;> simp [conD] at h
    exact ⟨.non, rfl, fun _ _ _ => .non⟩
  | .bl b, u, h => by
    cases u <;> simp [conD] at h
    subst h
    exact ⟨.bl b, rfl, fun _ _ _ => .bl b⟩
  | .int b, u, h => by
    cases u <;> simp [conD] at h
    subst h
    exact ⟨.int b, ⟨_, rfl⟩, fun _ _ _ => .int b⟩
  | .str b, u, h => by
    cases u <;> simp [conD] at h
    subst h
    exact ⟨.str b, ⟨_, rfl⟩, fun _ _ _ => .str b⟩
  | .fn x, u, h => by
    cases u <;> simp [conD] at h
    subst h
    exact ⟨.ref _, rfl, fun _ _ _ => .fn x⟩
  | .tup ds, u, h => by
    cases u with
    | ref a =>
      simp only [conD] at h
      cases e : K.lookup a with
      | none => rw [e] at h; cases h
      | some o =>
        rw [e] at h
        obtain ⟨oc, od, dt, osl⟩ := o
        cases oc with
        | type c =>
          cases dt with
          | seq its n =>
            simp only [Bool.and_eq_true, decide_eq_true_eq] at h
            obtain ⟨h1, h2, h3⟩ := h
            subst h1
            obtain ⟨vs, q1, q2⟩ := conDs_ok h3
            exact ⟨.ref a, rfl, fun own mu H => .tup (.inr ⟨_, its, n, e, rfl, rfl, h2, q1⟩) (q2 own mu H)⟩
          | _ => simp at h
        | _ => simp at h
    | _ => simp [conD] at h
  | .lst ds, u, h => by
    cases u with
    | ref a =>
      simp only [conD] at h
      cases e : K.lookup a with
      | none => rw [e] at h; cases h
      | some o =>
        rw [e] at h
        obtain ⟨oc, od, dt, osl⟩ := o
        cases oc with
        | type c =>
          cases od with
          | none =>
            cases dt with
            | seq its n =>
              simp only [Bool.and_eq_true, decide_eq_true_eq] at h
              obtain ⟨h1, h2, h3⟩ := h
              subst h1
              obtain ⟨vs, q1, q2⟩ := conDs_ok h3
              exact ⟨.ref a, rfl, fun own mu H => .lst (.inr ⟨_, its, n, e, rfl, rfl, rfl, h2, q1⟩) (q2 own mu H)⟩
            | _ => simp at h
          | some _ => cases dt <;> simp at h
        | _ => simp at h
    | _ => simp [conD] at h
  | .dct _ _, u, h => by simp [conD] at h
  | .obj _ _ _, u, h => by simp [conD] at h
  | .ref _, u, h => by simp [conD] at h
  | .exc _ _ _, u, h => by simp [conD] at h
theorem conDs_ok [Wd] {K : PySem.W.Frag} : ∀ {ds : List D} {us : List Value}, conDs K ds us = true → ∃ vs, Vals vs us ∧ ∀ own mu H, RVs K own mu H vs ds
  | [], us, h => by
    cases us <;> simp [conDs] at h
    exact ⟨[], .nil, fun _ _ _ => .nil⟩
  | d :: ds, us, h => by
    cases us with
    | nil => simp [conDs] at h
    | cons u us =>
      simp only [conDs, Bool.and_eq_true] at h
      obtain ⟨v, h1, h2⟩ := conD_ok h.1
      obtain ⟨vs, q1, q2⟩ := conDs_ok h.2
      exact ⟨v :: vs, .cons h1 q1, fun own mu H => .cons (h2 own mu H) (q2 own mu H)⟩
end
/-! ### written dicts -/
def entsB (K : PySem.W.Frag) : List DictEntry → List (Str × D) → Bool
  | [], [] => true
  | e :: es, p :: l => ((match e.key with
    | .str y _ => decide (p.1 = y)
    | _ => false) && conD K p.2 e.val) && entsB K es l
  | _, _ => false
def tabB (K : PySem.W.Frag) (p : Str × List (Str × D)) : Bool := (match List.lookup (He.ga K p.1) K with
  | some o => (match o.data with
    | .dict es _ => entsB K es.toList p.2
    | _ => false)
  | none => false) && (decide (p.2.map (·.1)).Nodup && !(He.ga K p.1 == sysModules))
theorem ents_ok [Wd] {K : PySem.W.Frag} {w : World} : ∀ {es : List DictEntry} {l : List (Str × D)}, entsB K es l = true → PySem.W.KeysLit w.params es → ∃ lv, KTs w es lv ∧ lv.map (·.1) = l.map (·.1) ∧ ∀ z, (∃ d v, l.lookup z = some d ∧ lv.lookup z = some v ∧ ∀ own mu H, RV K own mu H v d) ∨ (l.lookup z = none ∧ lv.lookup z = none)
  | [], [], _, _ => ⟨[], .nil, rfl, fun z => .inr ⟨rfl, rfl⟩⟩
  | [], _ :: _, h, _ => by simp [entsB] at h
  | _ :: _, [], h, _ => by simp [entsB] at h
  | e :: es, p :: l, h, k => by
    simp only [entsB, Bool.and_eq_true] at h
    obtain ⟨⟨h1, h2⟩, h3⟩ := h
    obtain ⟨⟨x, t, hk, hh⟩, kr⟩ := (show (∃ x t, e.key = Value.str x t ∧ e.hash = PyData.keyHash w.params x) ∧ PySem.W.KeysLit w.params es from k)
    rw [hk] at h1
    simp only [decide_eq_true_eq] at h1
    obtain ⟨v, v1, v2⟩ := conD_ok h2
    obtain ⟨lv, q1, q2, q3⟩ := ents_ok h3 kr
    refine ⟨(x, v) :: lv, .cons ⟨t, hk⟩ hh v1 q1, by simp [q2, h1], fun z => ?_⟩
    obtain ⟨p1, p2⟩ := p
    simp only at h1
    subst h1
    rw [List.lookup_cons, List.lookup_cons]
    cases hz : z == p1 with
    | true => exact .inl ⟨p2, v, rfl, rfl, v2⟩
    | false => exact q3 z
/-! ### the head's table -/
/-- a def: its key, its place in the text (in its class), its names by slots, what it does -/
structure Ent where
  name : Str
  at_ : Nat
  mi : Option Nat
  N : List Str
  d : Def
structure Mod where
  ents : List Ent
  glob : List (Str × D)
  kd : List (Str × List (Str × D))
  flds : List (Str × List Str)
  free : List Str
  wf : Nat
  mets : List ((Str × Str) × Str)
  inits : List (Str × Str)
  exk : List (Str × List Str)
  isi : List ((Str × Str) × Bool)
  isx : List ((Str × Str) × Bool)
  exm : List ((Str × Str) × Bool)
  cls : List Str
def Mod.tb (M : Mod) : Tb := ⟨M.ents.map fun e => (e.name, e.d), M.glob, M.kd, M.flds, M.free, M.wf, M.mets, M.inits, M.exk, M.isi, M.isx, M.exm, M.cls⟩
def dvO : D → Option He.Dv
  | .non => some .non
  | .bl b => some (.bl b)
  | .int i => some (.int i)
  | .str x => some (.str x)
  | _ => none
def dvD (d : D) : He.Dv := (dvO d).getD .non
section
variable (M : Mod) (prog : Program)
def topS (i : Nat) : Stmt := prog.main.body.getD i (.Pass ⟨0, 0, 0, 0⟩)
def Ent.st (e : Ent) : Stmt := match e.mi with
  | none => topS prog e.at_
  | some j => (match topS prog e.at_ with
    | .ClassDef _ _ _ body _ _ _ _ _ _ _ => body.getD j (.Pass ⟨0, 0, 0, 0⟩)
    | _ => .Pass ⟨0, 0, 0, 0⟩)
def Ent.at2 (e : Ent) : Str × Option Str := match e.d.own with
  | none => (e.name, none)
  | some (C, m) => (C, some m)
def Ent.nm (e : Ent) : Str := match e.d.own with
  | none => e.name
  | some (_, m) => m
def Ent.dd (e : Ent) : He.DefD := ⟨e.at2, e.nm, e.name, defArgs (e.st prog), defBody (e.st prog), defScope (e.st prog), e.d.df.map dvD, []⟩
def Mod.fn : List He.DefD := M.ents.map fun e => e.dd prog
/-- classes whose making is told -/
def Mod.fa : List He.Fa := ((M.ents.filter fun e => e.d.own.isNone).map fun e => .glo e.name) ++ ((M.free.map .free) ++ ((M.flds.flatMap fun p => .cls p.1 :: p.2.map fun f => .noat p.1 f) ++
  ((M.cls.map .glo) ++ ((M.mets.flatMap fun p => [.cls p.1.1, .meth p.1.1 p.1.2]) ++ ((M.inits.map fun p => .mkr p.1) ++ ((M.exk.map fun p => .exc p.1) ++ M.exm.map fun p => .exm p.1.1 p.1.2 p.2))))))
def Mod.ts : List He.Tab := M.kd.map fun p => (fun K => He.ga K p.1, p.2.map (·.1))
def insB (K : PySem.W.Frag) (C : Addr) : Bool := decide (PySem.W.findIn K (.ref C) "__class__" = some (some (.builtin "object.__class__"))) && (decide (PySem.W.specialIn K (.builtin "object.__class__") "__get__" = some (some (.builtin "getset_descriptor.__get__"))) &&
  (decide (PySem.W.takesIn K (.builtin "object.__class__") = some true) && decide (PySem.W.mroIn K C (.type "object") = some true)))
def excB (K : PySem.W.Frag) (C : Addr) : Bool := decide (PySem.W.findIn K (.ref C) "__getattribute__" = some (some (.builtin "BaseException.__getattribute__"))) && (decide (PySem.W.findIn K (.ref C) "__getattr__" = some none) &&
  (decide (PySem.W.subIn K (.ref C) (.type "BaseException") = some true) && (PySem.W.hasDictIn K C && insB K C)))
def kitB (K : PySem.W.Frag) (p : (Str × Str) × Bool) : Bool := decide (PySem.W.kitOne K (.ref (He.ga K p.1.1)) (clV K p.1.2) = some p.2)
def Mod.exB (K : PySem.W.Frag) : Bool := ((M.glob.all fun p => match PySem.W.nsIn K mainGlobals p.1 with
    | some (some u) => conD K p.2 u
    | _ => false) &&
  (M.kd.all fun p => tabB K p) && M.kd.all fun p => p.2.all fun q => match PySem.W.nsIn K (He.ga K p.1) q.1 with
    | some (some u) => conD K q.2 u
    | _ => false) && ((M.isi.all fun p => kitB K p && insB K (He.ga K p.1.1)) && (M.isx.all fun p => kitB K p && excB K (He.ga K p.1.1)))
/-- plain parameters, the last ones with defaults -/
def argsB (n : Nat) : Arguments → Bool
  | ⟨[], args, none, [], [], none, dfl⟩ => decide (dfl.length = n) && decide (n ≤ args.length)
  | _ => false
def parsOf (a : Arguments) : List Str := a.args.map (·.arg)
def scB (N ps : List Str) (sc : Scope) : Bool := decide (sc.kind = .function) && (!sc.isCoroutine && (!sc.isGenerator && (decide N.Nodup && (decide (N.take ps.length = ps) && ((ps.all fun x => match sc.names.lookup x with
    | some .local => true
    | some .cell => true
    | _ => false) && sc.names.all fun y => !(y.2 == .free))))))
def entB (T : Tb) (e : Ent) : Bool := argsB e.d.df.length (defArgs (e.st prog)) && (decide (parsOf (defArgs (e.st prog))).Nodup && (scB e.N (parsOf (defArgs (e.st prog))) (defScope (e.st prog)) && (decide (e.N.length = e.d.nn) && (decide ((parsOf (defArgs (e.st prog))).length = e.d.ar) &&
  (okSs (scOf T (defScope (e.st prog)) e.N) e.d.body (defBody (e.st prog)) && e.d.df.all fun d => (dvO d).isSome)))))
/-- a method's key leads to its def -/
def metB (T : Tb) (key : Str) (C m : Str) : Bool := match T.defs.lookup key with
  | some d => decide (d.own = some (C, m))
  | none => false
def Mod.okB : Bool := (M.ents.all fun e => entB prog M.tb e) && ((M.mets.all fun p => metB M.tb p.2 p.1.1 p.1.2) && ((M.inits.all fun p => metB M.tb p.2 p.1 "__init__" && M.cls.contains p.1) && ((M.exk.all fun p => M.cls.contains p.1 && p.2.isEmpty) && ((M.exm.all fun p => M.cls.contains p.1.2) && M.isi.all fun p => (M.flds.map (·.1)).contains p.1.1))))
end
theorem args_of {n : Nat} {a : Arguments} (h : argsB n a = true) : ∃ args dfl, a = ⟨[], args, none, [], [], none, dfl⟩ ∧ n ≤ args.length := by
  unfold argsB at h
  split at h
  · rename_i args dfl
    obtain ⟨_, h2⟩ := Bool.and_eq_true_iff.mp h
    exact ⟨args, dfl, rfl, of_decide_eq_true h2⟩
  · cases h
theorem bind_plain' {x q : Str} {args : List Arg} {dfl : List Expr} {body : List Stmt} {scope : Scope} {kV doc pm cdv ct : Value} {an : Option Addr} {us : List Value} (hn : (args.map (·.arg)).Nodup) (hl : us.length = (args.map (·.arg)).length) :
    bindArgs (PySem.W.fnOf x q ⟨[], args, none, [], [], none, dfl⟩ body scope .none kV doc pm an cdv ct) ⟨us, []⟩ = pure ((args.map (·.arg)).zip us) := by
  unfold bindArgs PySem.W.fnOf
  have hs : seqItems? .none = pure none := rfl
  have hgt : ¬ (us.length > (args.map (·.arg)).length) := by omega
  simp only [List.map_nil, List.nil_append, hs, List.forIn_nil, pure_bind, Option.getD_none, hgt, List.length_nil, Nat.zero_le, Nat.sub_eq_zero_of_le, List.drop_nil, Nat.sub_zero, List.take_length, List.zip_nil_right, List.append_nil, zip_missing hl, decide_false, Bool.false_and, Bool.false_eq_true, if_false, List.isEmpty_nil, Bool.not_true]
  rw [zip_fm hn hl]
theorem dv_ok [Wd] {K : PySem.W.Frag} : ∀ {df : List D}, df.all (fun d => (dvO d).isSome) = true → ∀ own mu H, RVs K own mu H ((df.map dvD).map (He.Dv.v K)) df
  | [], _, _, _, _ => .nil
  | d :: df, h, own, mu, H => by
    rw [List.all_cons] at h
    obtain ⟨h1, h2⟩ := Bool.and_eq_true_iff.mp h
    refine .cons ?_ (dv_ok h2 own mu H)
    cases d with
    | non => exact .non
    | bl b => exact .bl b
    | int i => exact .int i
    | str x => exact .str x
    | _ => cases h1
theorem scB_ok {N ps : List Str} {sc : Scope} (h : scB N ps sc = true) : FnScope N ps sc := by
  unfold scB at h
  simp only [Bool.and_eq_true, decide_eq_true_eq, Bool.not_eq_true', List.all_eq_true] at h
  obtain ⟨h1, h2, h3, h4, h5, h6, h7⟩ := h
  refine ⟨h1, h2, h3, h4, h5, fun x hx => ?_, fun y hy e => ?_⟩
  · have := h6 x hx
    split at this
    · exact .inl (by assumption)
    · exact .inr (by assumption)
    · cases this
  · have := h7 y hy
    rw [e] at this
    cases this
theorem lookup_mem {κ α : Type} [BEq κ] [LawfulBEq κ] {x : κ} {a : α} : ∀ {l : List (κ × α)}, l.lookup x = some a → (x, a) ∈ l
  | [], h => by cases h
  | (y, b) :: l, h => by
    rw [List.lookup_cons] at h
    cases e : x == y with
    | true =>
      rw [e] at h
      cases h
      rw [eq_of_beq e]
      exact List.mem_cons_self ..
    | false =>
      rw [e] at h
      exact List.mem_cons_of_mem _ (lookup_mem h)
theorem dec {p : Prop} [Decidable p] (h : decide p = true) : p := of_decide_eq_true h
theorem insB_ok {K : PySem.W.Frag} {C : Addr} (h : insB K C = true) : InsC K C := by
  unfold insB at h
  obtain ⟨h1, h⟩ := Bool.and_eq_true_iff.mp h
  obtain ⟨h2, h⟩ := Bool.and_eq_true_iff.mp h
  obtain ⟨h3, h4⟩ := Bool.and_eq_true_iff.mp h
  exact ⟨dec h1, dec h2, dec h3, dec h4⟩
theorem excB_ok {K : PySem.W.Frag} {C : Addr} (h : excB K C = true) : ExcC K C := by
  unfold excB at h
  obtain ⟨h1, h⟩ := Bool.and_eq_true_iff.mp h
  obtain ⟨h2, h⟩ := Bool.and_eq_true_iff.mp h
  obtain ⟨h3, h⟩ := Bool.and_eq_true_iff.mp h
  obtain ⟨h4, h5⟩ := Bool.and_eq_true_iff.mp h
  have q := insB_ok h5
  exact ⟨dec h1, dec h2, dec h3, h4, q.ha, q.hn, q.ht, q.hm⟩
theorem metB_ok {T : Tb} {key C m : Str} (h : metB T key C m = true) : ∃ d, T.defs.lookup key = some d ∧ d.own = some (C, m) := by
  unfold metB at h
  split at h
  · rename_i d hd
    exact ⟨d, hd, dec h⟩
  · cases h
theorem ent_adr {K : PySem.W.Frag} {e : Ent} : adr K e.name e.d = He.fAd K e.at2 := by
  unfold adr Ent.at2 He.fAd
  cases e.d.own with
  | none => rfl
  | some p => rfl
section
variable {M : Mod} {prog : Program} {w : World} {h : Heap} {K : PySem.W.Frag} {mg : Str → Option Value} {tf : List He.Defn}
theorem def_ok [Wd] {e : Ent} (X : K.In h) (G : h.Ns mainGlobals mg) (c : He.SaysX (M.fa) (M.fn prog) M.ts tf M.exB w h K) (he : e ∈ M.ents) (ek : entB prog M.tb e = true) : DefOk M.tb K mg e.name e.d := by
  obtain ⟨fd, F⟩ := c.t.d.defs (show e.dd prog ∈ M.fn prog from List.mem_map.mpr ⟨e, he, rfl⟩)
  have F : FunD K e.nm e.name (defArgs (e.st prog)) (defBody (e.st prog)) (defScope (e.st prog)) ((e.d.df.map dvD).map (He.Dv.v K)) [] (He.fAd K e.at2) fd := F
  rw [← ent_adr] at F
  unfold entB at ek
  obtain ⟨k1, k2⟩ := Bool.and_eq_true_iff.mp ek
  obtain ⟨k2, k3⟩ := Bool.and_eq_true_iff.mp k2
  obtain ⟨k3, k4⟩ := Bool.and_eq_true_iff.mp k3
  obtain ⟨k4, k5⟩ := Bool.and_eq_true_iff.mp k4
  obtain ⟨k5, k6⟩ := Bool.and_eq_true_iff.mp k5
  obtain ⟨k6, k7⟩ := Bool.and_eq_true_iff.mp k6
  have k2 := dec k2
  have k5 := dec k5
  have ldv : ((e.d.df.map dvD).map (He.Dv.v K)).length = e.d.df.length := by simp
  obtain ⟨args, dfl, ea, hle⟩ := args_of k1
  have hp : (parsOf (defArgs (e.st prog))).length = args.length := by rw [ea]; unfold parsOf; simp
  refine ⟨⟨e.nm, e.name, _, _, _, e.N, parsOf (defArgs (e.st prog)), fd, _, F, scB_ok k3, dec k4, k5, dv_ok k7, fun n n1 n2 => ?_, fun hdf s us hl => ?_, k6⟩, fun ho => ?_⟩
  · by_cases hdf : e.d.df = []
    · refine ⟨[], ?_, ?_⟩
      · rw [hdf]
        simp only [List.map_nil, List.drop_nil]
        exact .nil
      · rw [hdf] at F
        refine FunD.bindsN F fun kV doc pm an cdv ct us hl => ?_
        rw [ea] at k2 hl ⊢
        exact bind_plain' k2 hl
    · have hd : (e.d.df.map dvD).map (He.Dv.v K) ≠ [] := fun z => hdf (by simpa using z)
      refine FunD.binds1 F n (n + e.d.df.length - e.d.ar) hd (by rw [ldv, k5]; omega) fun T kV doc pm an cdv ct us its l1 l2 => ?_
      rw [ldv] at l2
      have e1 : n + e.d.df.length - e.d.ar = us.length + its.length - (parsOf (defArgs (e.st prog))).length := by rw [l1, l2, k5]
      rw [e1]
      rw [ea] at k2 k5 ⊢
      have k5' : (args.map (·.arg)).length = e.d.ar := k5
      exact bind_dfl k2 (by rw [k5', l1]; exact n1) (by rw [k5', l1, l2]; exact n2) (by rw [l2, List.length_map]; exact hle)
  · rw [hdf] at F
    refine FunD.bindsA F (fun kV doc pm an cdv ct us hl => ?_) s us hl
    rw [ea] at k2 hl ⊢
    exact bind_plain' k2 hl
  · refine He.glo_ok X G (c.t.d.facts (List.mem_append_left _ (List.mem_map.mpr ⟨e, List.mem_filter.mpr ⟨he, ?_⟩, rfl⟩)))
    rw [ho]
    rfl
theorem mod_ok [Wd] (X : K.In h) (G : h.Ns mainGlobals mg) (c : He.SaysX (M.fa) (M.fn prog) M.ts tf M.exB w h K) (ok : M.okB prog = true) : ModOk M.tb w K mg := by
  have hex := c.more
  unfold Mod.exB at hex
  obtain ⟨x1, y2⟩ := Bool.and_eq_true_iff.mp hex
  obtain ⟨x1, x2⟩ := Bool.and_eq_true_iff.mp x1
  obtain ⟨x1, x3⟩ := Bool.and_eq_true_iff.mp x1
  obtain ⟨y1, y2⟩ := Bool.and_eq_true_iff.mp y2
  unfold Mod.okB at ok
  obtain ⟨o1, o2⟩ := Bool.and_eq_true_iff.mp ok
  obtain ⟨o2, o3⟩ := Bool.and_eq_true_iff.mp o2
  obtain ⟨o3, o4⟩ := Bool.and_eq_true_iff.mp o3
  obtain ⟨o4, o5⟩ := Bool.and_eq_true_iff.mp o4
  obtain ⟨o5, o6⟩ := Bool.and_eq_true_iff.mp o5
  have fFree : ∀ {x}, x ∈ M.free → He.Fa.ok K (.free x) = true := fun hx => c.t.d.facts (List.mem_append_right _ (List.mem_append_left _ (List.mem_map.mpr ⟨_, hx, rfl⟩)))
  have fCls : ∀ {C fs}, (C, fs) ∈ M.flds → He.Fa.ok K (.cls C) = true := fun hm => c.t.d.facts (List.mem_append_right _ (List.mem_append_right _ (List.mem_append_left _ (List.mem_flatMap.mpr ⟨_, hm, List.mem_cons_self ..⟩))))
  have fNoat : ∀ {C fs f}, (C, fs) ∈ M.flds → f ∈ fs → He.Fa.ok K (.noat C f) = true := fun hm hf => c.t.d.facts (List.mem_append_right _ (List.mem_append_right _ (List.mem_append_left _ (List.mem_flatMap.mpr ⟨_, hm, List.mem_cons_of_mem _ (List.mem_map.mpr ⟨_, hf, rfl⟩)⟩))))
  have fGlo : ∀ {x}, x ∈ M.cls → mg x = some (.ref (He.ga K x)) := fun hx => He.glo_ok X G (c.t.d.facts (List.mem_append_right _ (List.mem_append_right _ (List.mem_append_right _ (List.mem_append_left _ (List.mem_map.mpr ⟨_, hx, rfl⟩))))))
  have fMet : ∀ {C m key}, ((C, m), key) ∈ M.mets → He.Fa.ok K (.cls C) = true ∧ He.Fa.ok K (.meth C m) = true := fun {C m key} hm =>
    ⟨c.t.d.facts (List.mem_append_right _ (List.mem_append_right _ (List.mem_append_right _ (List.mem_append_right _ (List.mem_append_left _ (List.mem_flatMap.mpr ⟨_, hm, List.mem_cons_self ..⟩)))))),
      c.t.d.facts (List.mem_append_right _ (List.mem_append_right _ (List.mem_append_right _ (List.mem_append_right _ (List.mem_append_left _ (List.mem_flatMap.mpr ⟨_, hm, List.mem_cons_of_mem _ (List.mem_cons_self ..)⟩))))))⟩
  have fMkr : ∀ {C key}, (C, key) ∈ M.inits → He.Fa.ok K (.mkr C) = true := fun hm => c.t.d.facts (List.mem_append_right _ (List.mem_append_right _ (List.mem_append_right _ (List.mem_append_right _ (List.mem_append_right _ (List.mem_append_left _ (List.mem_map.mpr ⟨_, hm, rfl⟩)))))))
  have fExc : ∀ {C fs}, (C, fs) ∈ M.exk → He.Fa.ok K (.exc C) = true := fun hm => c.t.d.facts (List.mem_append_right _ (List.mem_append_right _ (List.mem_append_right _ (List.mem_append_right _ (List.mem_append_right _ (List.mem_append_right _ (List.mem_append_left _ (List.mem_map.mpr ⟨_, hm, rfl⟩))))))))
  have fExm : ∀ {C y b}, ((C, y), b) ∈ M.exm → He.Fa.ok K (.exm C y b) = true := fun hm => c.t.d.facts (List.mem_append_right _ (List.mem_append_right _ (List.mem_append_right _ (List.mem_append_right _ (List.mem_append_right _ (List.mem_append_right _ (List.mem_append_right _ (List.mem_map.mpr ⟨_, hm, rfl⟩))))))))
  refine ⟨fun x d hd => ?_, fun x d hd => ?_, fun n z d hd => ?_, fun n l hl => ?_, fun C f hf => ?_, fun x hx => He.free_ok X G (fFree hx), fun C m key hk => ?_, fun C key hC => ?_, fun C y b hk => ?_, fun C y b hk => ?_, fun C y b hk => ?_, fun C fs hk => ?_, fun x hx => fGlo hx⟩
  · have hd := lookup_mem hd
    obtain ⟨e, he, q⟩ := List.mem_map.mp (show (x, d) ∈ M.ents.map fun e => (e.name, e.d) from hd)
    cases q
    exact def_ok X G c he (List.all_eq_true.mp o1 e he)
  · have hd := lookup_mem (show M.glob.lookup x = some d from hd)
    have q := List.all_eq_true.mp x1 _ hd
    simp only at q
    split at q
    · rename_i u e
      obtain ⟨v, q1, q2⟩ := conD_ok q
      exact ⟨u, v, PySem.W.mg_of X G e, q1, q2⟩
    · cases q
  · have hd : (match M.kd.lookup n with
      | some l => l.lookup z
      | none => none) = some d := hd
    split at hd
    · rename_i l hl
      have hl := lookup_mem hl
      have hd := lookup_mem hd
      have q := List.all_eq_true.mp (List.all_eq_true.mp x2 _ hl) _ hd
      simp only at q
      split at q
      · rename_i u e
        obtain ⟨v, q1, q2⟩ := conD_ok q
        obtain ⟨i, hi⟩ := List.mem_iff_getElem?.mp hl
        obtain ⟨es, m, D⟩ := c.t.tab i (t := (fun K => He.ga K n, l.map (·.1))) (by
          show (M.kd.map fun p => ((fun K => He.ga K p.1, p.2.map (·.1)) : He.Tab))[i]? = _
          rw [List.getElem?_map, hi]
          rfl)
        exact ⟨v, ⟨es, m, u, D.at_, D.lit, e, q1⟩, q2⟩
      · cases q
    · cases hd
  · have hl := lookup_mem (show M.kd.lookup n = some l from hl)
    have q := List.all_eq_true.mp x3 _ hl
    unfold tabB at q
    obtain ⟨q1, q2⟩ := Bool.and_eq_true_iff.mp q
    obtain ⟨q2, q3⟩ := Bool.and_eq_true_iff.mp q2
    obtain ⟨i, hi⟩ := List.mem_iff_getElem?.mp hl
    obtain ⟨es, m, D⟩ := c.t.tab i (t := (fun K => He.ga K n, l.map (·.1))) (by
      show (M.kd.map fun p => ((fun K => He.ga K p.1, p.2.map (·.1)) : He.Tab))[i]? = _
      rw [List.getElem?_map, hi]
      rfl)
    have hat := D.at_
    simp only at hat
    rw [hat] at q1
    obtain ⟨lv, l1, l2, l3⟩ := ents_ok q1 D.lit
    exact ⟨lv, ⟨⟨es, m, hat, l1⟩, by rw [l2]; exact of_decide_eq_true q2, by simpa using q3⟩, l3⟩
  · have hf : (match M.flds.lookup C with
      | some fs => fs.contains f
      | none => false) = true := hf
    split at hf
    · rename_i fs hfs
      have hm := lookup_mem hfs
      have hf : f ∈ fs := by simpa using hf
      exact ⟨He.cls_ok (fCls hm), He.noat_ok (fNoat hm hf)⟩
    · cases hf
  · have hm := lookup_mem (show M.mets.lookup (C, m) = some key from hk)
    exact ⟨metB_ok (List.all_eq_true.mp o2 _ hm), He.cls_ok (fMet hm).1, He.meth_ok (fMet hm).2⟩
  · obtain ⟨⟨C', key'⟩, hm, rfl⟩ := List.mem_map.mp (show C ∈ M.inits.map (·.1) from hC)
    obtain ⟨_, q2⟩ := Bool.and_eq_true_iff.mp (List.all_eq_true.mp o3 _ hm)
    refine ⟨fun hk => ?_, fGlo (by simpa using q2), He.mkr_ok (fMkr hm)⟩
    have hm' := lookup_mem (show M.inits.lookup C' = some key from hk)
    obtain ⟨q1, _⟩ := Bool.and_eq_true_iff.mp (List.all_eq_true.mp o3 _ hm')
    exact metB_ok q1
  · have hm := lookup_mem (show M.isi.lookup (C, y) = some b from hk)
    obtain ⟨q1, q2⟩ := Bool.and_eq_true_iff.mp (List.all_eq_true.mp y1 _ hm)
    have q3 : C ∈ M.flds.map (·.1) := by simpa using List.all_eq_true.mp o6 _ hm
    obtain ⟨⟨C', fs⟩, hf, rfl⟩ := List.mem_map.mp q3
    exact ⟨dec q1, He.cls_ok (fCls hf), insB_ok q2⟩
  · have hm := lookup_mem (show M.isx.lookup (C, y) = some b from hk)
    obtain ⟨q1, q2⟩ := Bool.and_eq_true_iff.mp (List.all_eq_true.mp y2 _ hm)
    exact ⟨dec q1, excB_ok q2⟩
  · have hm := lookup_mem (show M.exm.lookup (C, y) = some b from hk)
    exact ⟨fGlo (by simpa using List.all_eq_true.mp o5 _ hm), He.exm_ok (fExm hm)⟩
  · have hm := lookup_mem (show M.exk.lookup C = some fs from hk)
    obtain ⟨q1, q2⟩ := Bool.and_eq_true_iff.mp (List.all_eq_true.mp o4 _ hm)
    have q2 : fs = [] := by simpa using q2
    subst q2
    exact ⟨fGlo (by simpa using q1), He.exc_ok (fExc hm)⟩
end
end DL

set_option Elab.async false
set_option linter.all false
set_option maxRecDepth 100000
set_option maxHeartbeats 4000000
/-! the deep layer: what a run comes to, by wishes -/
namespace DL
open PySem PySem.Spec L2

@[irreducible] def Ok {α : Type} (r : R α) (Q : α → G → Prop) (E : Exn → G → Prop) : Prop := match r with
  | .ok a g => Q a g
  | .ex e g => E e g
  | .bad => False
@[irreducible] def OO {α : Type} (o : Option α) (Q : α → Prop) : Prop := match o with
  | some a => Q a
  | none => False
def Never : Exn → G → Prop := fun _ _ => False
theorem Ok_congr {α : Type} {r r' : R α} {Q : α → G → Prop} {E : Exn → G → Prop} (h : r = r') : Ok r Q E = Ok r' Q E := by rw [h]
theorem OO_congr {α : Type} {r r' : Option α} {Q : α → Prop} (h : r = r') : OO r Q = OO r' Q := by rw [h]
section
variable {α β : Type} {Q Q' : α → G → Prop} {E E' : Exn → G → Prop} {g : G}
theorem Ok_ok {a : α} : Ok (.ok a g) Q E = Q a g := by with_unfolding_all rfl
theorem Ok_bad : Ok (.bad : R α) Q E = False := by with_unfolding_all rfl
theorem Ok_ex {e : Exn} : Ok (.ex e g : R α) Q E = E e g := by with_unfolding_all rfl
theorem Ok.mono {r : R α} (h : Ok r Q E) (hq : ∀ a g, Q a g → Q' a g) (he : ∀ e g, E e g → E' e g) : Ok r Q' E' := by
  cases r with
  | ok a g => rw [Ok_ok] at h ⊢; exact hq a g h
  | ex e g => rw [Ok_ex] at h ⊢; exact he e g h
  | bad => rw [Ok_bad] at h; exact h.elim
theorem Ok.to {r : R α} (h : Ok r Q Never) (hq : ∀ a g, Q a g → Q' a g) : Ok r Q' E' := h.mono hq fun _ _ z => z.elim
theorem Ok.get {r : R α} (h : Ok r Q Never) : ∃ a g, r = .ok a g ∧ Q a g := by
  cases r with
  | ok a g => rw [Ok_ok] at h; exact ⟨a, g, rfl, h⟩
  | ex e g => rw [Ok_ex] at h; exact h.elim
  | bad => rw [Ok_bad] at h; exact h.elim
theorem Ok.of {r : R α} {a : α} (e : r = .ok a g) (h : Q a g) : Ok r Q E := by rw [e, Ok_ok]; exact h
theorem Ok_bind {r : R β} {k : β → M α} : Ok (r.bind k) Q E = Ok r (fun a g => Ok (k a g) Q E) E := by cases r <;> with_unfolding_all rfl
theorem Ok_bindM {m : M β} {k : β → M α} : Ok ((m >>= k) g) Q E = Ok (m g) (fun a g => Ok (k a g) Q E) E := Ok_bind
theorem Ok_pure {a : α} : Ok ((pure a : M α) g) Q E = Q a g := by with_unfolding_all rfl
theorem Ok_badM : Ok ((M.bad : M α) g) Q E = False := by with_unfolding_all rfl
theorem Ok_optM {o : Option α} : Ok (optM o g) Q E = OO o fun a => Q a g := by cases o <;> with_unfolding_all rfl
theorem Ok_needM {c : Prop} [Decidable c] {Q : Unit → G → Prop} : Ok (needM c g) Q E = (c ∧ Q () g) := by
  unfold needM
  by_cases h : c
  · rw [if_pos h]; simp only [h, true_and]; with_unfolding_all rfl
  · rw [if_neg h]; simp only [h, false_and]; with_unfolding_all rfl
theorem Ok_noEx {m : M α} : Ok (noEx m g) Q E = Ok (m g) Q Never := by
  unfold noEx
  cases m g <;> with_unfolding_all rfl
theorem OO_some {a : α} {Q : α → Prop} : OO (some a) Q = Q a := by with_unfolding_all rfl
theorem OO_none {Q : α → Prop} : OO (none : Option α) Q = False := by with_unfolding_all rfl
theorem OO_map {f : β → α} {o : Option β} {Q : α → Prop} : OO (o.map f) Q = OO o fun b => Q (f b) := by cases o <;> with_unfolding_all rfl
end
section
variable {cf : Cf} {Q : D → G → Prop} {E : Exn → G → Prop} {g : G} {ρ : Env'} {a b c e : DL.E} {es : Es}
theorem o_v {i : Nat} : Ok (evE cf (.v i) ρ g) Q E = OO (slot ρ i) fun d => Q d g := by simp only [evE, Ok_optM]
theorem o_non : Ok (evE cf .non ρ g) Q E = Q .non g := by simp only [evE, Ok_pure]
theorem o_bl {b : Bool} : Ok (evE cf (.bl b) ρ g) Q E = Q (.bl b) g := by simp only [evE, Ok_pure]
theorem o_int {b : Int} : Ok (evE cf (.int b) ρ g) Q E = Q (.int b) g := by simp only [evE, Ok_pure]
theorem o_str {b : Str} : Ok (evE cf (.str b) ρ g) Q E = Q (.str b) g := by simp only [evE, Ok_pure]
theorem cfN_glob {T : Tb} {n : Nat} {x : Str} : (cfN T n).glob x = T.glob.lookup x := by cases n <;> with_unfolding_all rfl
theorem cfN_kd {T : Tb} {n : Nat} : (cfN T n).kd = T.kdL := by cases n <;> with_unfolding_all rfl
theorem cfN_ok {T : Tb} {n : Nat} : (cfN T n).ok = okG T false := by cases n <;> with_unfolding_all rfl
theorem cfN_okm {T : Tb} {n : Nat} : (cfN T n).okm = okG T true := by cases n <;> with_unfolding_all rfl
theorem cfN_meth {T : Tb} {n : Nat} {C m : Str} : (cfN T n).meth C m = T.mets.lookup (C, m) := by cases n <;> with_unfolding_all rfl
theorem cfN_init {T : Tb} {n : Nat} {C : Str} : (cfN T n).init C = T.inits.lookup C := by cases n <;> with_unfolding_all rfl
theorem cfN_exk {T : Tb} {n : Nat} {C : Str} : (cfN T n).exk C = T.exk.lookup C := by cases n <;> with_unfolding_all rfl
theorem cfN_exm {T : Tb} {n : Nat} {C m : Str} : (cfN T n).exm C m = T.exm.lookup (C, m) := by cases n <;> with_unfolding_all rfl
theorem cfN_isi {T : Tb} {n : Nat} : (cfN T n).isi = fun C c => T.isi.lookup (C, c) := by cases n <;> with_unfolding_all rfl
theorem cfN_isx {T : Tb} {n : Nat} : (cfN T n).isx = fun C c => T.isx.lookup (C, c) := by cases n <;> with_unfolding_all rfl
theorem cfN_fld {T : Tb} {n : Nat} : (cfN T n).fld = T.fld := by cases n <;> with_unfolding_all rfl
theorem cfN_wf {T : Tb} {n : Nat} : (cfN T n).wf = T.wf := by cases n <;> with_unfolding_all rfl
theorem o_gl {T : Tb} {n : Nat} {x : Str} : Ok (evE (cfN T n) (.gl x) ρ g) Q E = OO (T.glob.lookup x) fun d => Q d g := by simp only [evE, Ok_optM, cfN_glob]
theorem o_tup : Ok (evE cf (.tup es) ρ g) Q E = Ok (evEs cf es ρ g) (fun ds g => ds.length ≤ sizeLine ∧ Q (.tup ds) g) E := by simp only [evE, Ok_bindM, Ok_needM, Ok_pure]
theorem o_lstT : Ok (evE cf (.lst true es) ρ g) Q E = Ok (evEs cf es ρ g) (fun ds g => ds.length ≤ sizeLine ∧ Q (.lst ds) g) E := by simp only [evE, Ok_bindM, Ok_needM, mkL, Ok_pure]
theorem o_lstF : Ok (evE cf (.lst false es) ρ g) Q E = Ok (evEs cf es ρ g) (fun ds g => ds.length ≤ sizeLine ∧ Q (.ref g.length) (g ++ [.lst ds])) E := by simp only [evE, Ok_bindM, Ok_needM, mkL, alloc, Ok_ok]
theorem o_dct {fz : Bool} {ps : Ps} : Ok (evE cf (.dct fz ps) ρ g) Q E = Ok (evPs cf ps ρ (g ++ [.dct [] []])) (fun ps g' => ps.length ≤ 15 ∧ Ok (setDctM g.length fz ps g') Q E) E := by simp only [evE, Ok_bindM, Ok_needM, newDct, Ok_ok]
theorem o_bin {op : Op2} : Ok (evE cf (.bin op a b) ρ g) Q E = Ok (evE cf a ρ g) (fun x g => Ok (evE cf b ρ g) (fun y g => OO (op2 op (rd g x) (rd g y)) fun z => Q z g) E) E := by simp only [evE, Ok_bindM, Ok_optM, rdM, Ok_ok]
theorem o_neg : Ok (evE cf (.neg a) ρ g) Q E = Ok (evE cf a ρ g) (fun x g => match x with
    | .int i => Q (.int (-i)) g
    | _ => False) E := by
  simp only [evE, Ok_bindM]
  congr 1
  funext x g
  cases x <;> with_unfolding_all rfl
theorem o_not : Ok (evE cf (.not a) ρ g) Q E = Ok (evE cf a ρ g) (fun x g => OO (truD (rd g x)) fun b => Q (.bl (!b)) g) E := by simp only [evE, Ok_bindM, Ok_optM, rdM, Ok_ok, Ok_pure]
theorem o_and : Ok (evE cf (.and es) ρ g) Q E = Ok (evAnd cf es ρ g) Q E := by simp only [evE]
theorem o_or : Ok (evE cf (.or es) ρ g) Q E = Ok (evOr cf es ρ g) Q E := by simp only [evE]
theorem o_and1 : Ok (evAnd cf (.cons e .nil) ρ g) Q E = Ok (evE cf e ρ g) Q E := by simp only [evAnd]
theorem o_or1 : Ok (evOr cf (.cons e .nil) ρ g) Q E = Ok (evE cf e ρ g) Q E := by simp only [evOr]
theorem o_and2 {e2 : DL.E} : Ok (evAnd cf (.cons e (.cons e2 es)) ρ g) Q E = Ok (evE cf e ρ g) (fun x g => OO (truD (rd g x)) fun b => if b then Ok (evAnd cf (.cons e2 es) ρ g) Q E else Q x g) E := by
  have h : evAnd cf (.cons e (.cons e2 es)) ρ = (do
    let x ← evE cf e ρ
    let y ← rdM x
    let b ← optM (truD y)
    if b then evAnd cf (.cons e2 es) ρ else pure x) := by simp only [evAnd]
  rw [h]
  simp only [Ok_bindM, Ok_optM, rdM, Ok_ok]
  congr 1
  funext x g
  congr 1
  funext k
  cases k <;> with_unfolding_all rfl
theorem o_or2 {e2 : DL.E} : Ok (evOr cf (.cons e (.cons e2 es)) ρ g) Q E = Ok (evE cf e ρ g) (fun x g => OO (truD (rd g x)) fun b => if b then Q x g else Ok (evOr cf (.cons e2 es) ρ g) Q E) E := by
  have h : evOr cf (.cons e (.cons e2 es)) ρ = (do
    let x ← evE cf e ρ
    let y ← rdM x
    let b ← optM (truD y)
    if b then pure x else evOr cf (.cons e2 es) ρ) := by simp only [evOr]
  rw [h]
  simp only [Ok_bindM, Ok_optM, rdM, Ok_ok]
  congr 1
  funext x g
  congr 1
  funext k
  cases k <;> with_unfolding_all rfl
theorem o_cmp {op : Cp} : Ok (evE cf (.cmp op a b) ρ g) Q E = Ok (evE cf a ρ g) (fun x g => Ok (evE cf b ρ g) (fun y g => OO (cmpD op (rd g x) (rd g y)) fun z => Q (.bl z) g) E) E := by simp only [evE, Ok_bindM, Ok_optM, rdM, Ok_ok, Ok_pure]
theorem o_cmp2 {op op' : Cp} : Ok (evE cf (.cmp2 op op' a b c) ρ g) Q E = Ok (evE cf a ρ g) (fun x g => Ok (evE cf b ρ g) (fun y g => OO (cmpD op (rd g x) (rd g y)) fun k =>
    if k then Ok (evE cf c ρ g) (fun z g => OO (cmpD op' (rd g y) (rd g z)) fun k => Q (.bl k) g) E else Q (.bl false) g) E) E := by
  simp only [evE, Ok_bindM, Ok_optM, rdM, Ok_ok]
  congr 1
  funext x g
  congr 1
  funext y g
  congr 1
  funext k
  cases k
  · with_unfolding_all rfl
  · simp only [if_true, Ok_bindM, Ok_optM, rdM, Ok_ok, Ok_pure]
theorem o_isn : Ok (evE cf (.isn a) ρ g) Q E = Ok (evE cf a ρ g) (fun x g => Q (.bl (match x with | .non => true | _ => false)) g) E := by
  simp only [evE, Ok_bindM]
  congr 1
  funext x g
  cases x <;> with_unfolding_all rfl
theorem o_notn : Ok (evE cf (.notn a) ρ g) Q E = Ok (evE cf a ρ g) (fun x g => Q (.bl (match x with | .non => false | _ => true)) g) E := by
  simp only [evE, Ok_bindM]
  congr 1
  funext x g
  cases x <;> with_unfolding_all rfl
theorem o_ite : Ok (evE cf (.ite c a b) ρ g) Q E = Ok (evE cf c ρ g) (fun x g => OO (truD (rd g x)) fun k => if k then Ok (evE cf a ρ g) Q E else Ok (evE cf b ρ g) Q E) E := by
  simp only [evE, Ok_bindM, Ok_optM, rdM, Ok_ok]
  congr 1
  funext x g
  congr 1
  funext k
  cases k <;> with_unfolding_all rfl
theorem o_ix {T : Tb} {n : Nat} : Ok (evE (cfN T n) (.ix a b) ρ g) Q E = Ok (evE (cfN T n) a ρ g) (fun x g => Ok (evE (cfN T n) b ρ g) (fun y g => OO (ixD T.kdL (rd g x) (rd g y)) fun z => Q z g) E) E := by simp only [evE, Ok_bindM, Ok_optM, rdM, Ok_ok, cfN_kd]
theorem o_sl {lo hi : Es} : Ok (evE cf (.sl a lo hi) ρ g) Q E = Ok (evE cf a ρ g) (fun x g => Ok (evPart cf lo ρ g) (fun l g => Ok (evPart cf hi ρ g) (fun h g => OO (slD (rd g x) l h) fun z => Q z g) E) E) E := by simp only [evE, Ok_bindM, Ok_optM, rdM, Ok_ok]
theorem o_fld {T : Tb} {n : Nat} {f : Str} : Ok (evE (cfN T n) (.fld a f) ρ g) Q E = Ok (evE (cfN T n) a ρ g) (fun x g => Ok (fldM T.fld x f g) Q E) E := by simp only [evE, Ok_bindM, cfN_fld]
theorem o_call {f : Str} : Ok (evE cf (.call f es) ρ g) Q E = Ok (evEs cf es ρ g) (fun ds g => Ok (cf.call f ds g) Q E) E := by simp only [evE, Ok_bindM]
theorem o_callv {T : Tb} {n : Nat} {i : Nat} : Ok (evE (cfN T n) (.callv i es) ρ g) Q E = OO (slot ρ i) fun f => match f with
    | .fn x => okG T false x es.len = true ∧ Ok (evEs (cfN T n) es ρ g) (fun ds g => Ok ((cfN T n).call x ds g) Q E) E
    | _ => False := by
  simp only [evE, Ok_bindM, Ok_optM]
  congr 1
  funext x
  cases x <;> first | with_unfolding_all rfl | skip
  simp only [Ok_bindM, Ok_needM, cfN_ok]
theorem o_mk {T : Tb} {n : Nat} {fz : Bool} {C : Str} : Ok (evE (cfN T n) (.mk fz C es) ρ g) Q E = Ok (evEs (cfN T n) es ρ g) (fun ds g => OO (T.inits.lookup C) fun key => okG T true key (ds.length + 1) = true ∧ Ok ((cfN T n).call key (.ref g.length :: ds) (g ++ [.ins C [] []])) (fun r g' => match r with
    | .non => Ok (endO fz g.length g') Q E
    | _ => False) E) E := by
  simp only [evE, Ok_bindM, cfN_init]
  congr 1
  funext ds g
  cases T.inits.lookup C with
  | none => simp only [OO_none, Ok_badM]
  | some key =>
    simp only [OO_some, Ok_bindM, Ok_needM, newI, Ok_ok, cfN_okm]
    congr 2
    funext r g'
    cases r <;> with_unfolding_all rfl
theorem o_own {T : Tb} {n : Nat} {m : Str} {o : DL.E} : Ok (evE (cfN T n) (.own m o es) ρ g) Q E = Ok (evE (cfN T n) o ρ g) (fun x g => OO (clsO g x) fun p => OO (T.mets.lookup (p.1, m)) fun key => (!p.2.contains m && okG T true key (es.len + 1)) = true ∧
    Ok (evEs (cfN T n) es ρ g) (fun ds g => Ok ((cfN T n).call key (x :: ds) g) Q E) E) E := by
  simp only [evE, Ok_bindM]
  congr 1
  funext x g
  cases clsO g x with
  | none => simp only [OO_none, Ok_bad]
  | some p =>
    obtain ⟨C, ns⟩ := p
    simp only [OO_some, cfN_meth]
    cases T.mets.lookup (C, m) with
    | none => simp only [OO_none, Ok_bad]
    | some key => simp only [OO_some, Ok_bindM, Ok_needM, cfN_okm]
theorem o_isc {T : Tb} {n : Nat} {cs : List Str} {many : Bool} : Ok (evE (cfN T n) (.isc a cs many) ρ g) Q E = Ok (evE (cfN T n) a ρ g) (fun x g => OO (iscB (fun C c => T.isi.lookup (C, c)) (fun C c => T.isx.lookup (C, c)) cs g x) fun b => Q (.bl b) g) E := by
  simp only [evE, Ok_bindM, cfN_isi, cfN_isx]
  congr 1
  funext x g
  unfold iscM
  cases iscB _ _ cs g x <;> with_unfolding_all rfl
theorem o_slen : Ok (evE cf (.slen a) ρ g) Q E = Ok (evE cf a ρ g) (fun x g => Ok (slenM x g) Q E) E := by simp only [evE, Ok_bindM]
theorem o_bi {b : Bi} : Ok (evE cf (.bi b es) ρ g) Q E = Ok (evEs cf es ρ g) (fun ds g => Ok (biM b ds g) Q E) E := by simp only [evE, Ok_bindM]
theorem o_mt {m : Mt} {o : DL.E} : Ok (evE cf (.mt m o es) ρ g) Q E = Ok (evE cf o ρ g) (fun x g => mtOk m (rd g x) = true ∧ Ok (evEs cf es ρ g) (fun ds g => Ok (mtM m x ds g) Q E) E) E := by simp only [evE, Ok_bindM, Ok_needM, rdM, Ok_ok]
theorem cfN_kt {T : Tb} {n : Nat} {x : Str} : (cfN T n).kt x = T.kd.lookup x := by cases n <;> with_unfolding_all rfl
theorem o_kget {T : Tb} {n : Nat} {o : DL.E} : Ok (evE (cfN T n) (.kget o es) ρ g) Q E = Ok (evE (cfN T n) o ρ g) (fun x g => match x with
    | .fn m => OO (T.kd.lookup m) fun l => Ok (evEs (cfN T n) es ρ g) (fun ds g => Ok (ktM l ds g) Q E) E
    | _ => False) E := by
  simp only [evE, Ok_bindM]
  congr 1
  funext x g
  cases x <;> first | with_unfolding_all rfl | skip
  rename_i m
  simp only [cfN_kt]
  cases T.kd.lookup m with
  | none => simp only [OO_none, Ok_badM]
  | some l => simp only [OO_some, Ok_bindM]
theorem k_str1 {l : List (Str × D)} {z : Str} : Ok (ktM l [.str z] g) Q E = Q ((l.lookup z).getD .non) g := by with_unfolding_all rfl
theorem o_deq : Ok (evE cf (.deq a b) ρ g) Q E = Ok (evE cf a ρ g) (fun x g => Ok (evE cf b ρ g) (fun y g => OO (deqD (rd g x) (rd g y)) fun z => Q (.bl z) g) E) E := by simp only [evE, Ok_bindM, Ok_optM, rdM, Ok_ok, Ok_pure]
theorem o_rev : Ok (evE cf (.rev a) ρ g) Q E = Ok (evE cf a ρ g) (fun x g => Ok (revM x g) Q E) E := by simp only [evE, Ok_bindM]
theorem rev_t {xs : List D} : Ok (revM (.tup xs) g) Q E = Q (.tup xs.reverse) g := by with_unfolding_all rfl
theorem o_rep {fz : Bool} : Ok (evE cf (.rep fz a b) ρ g) Q E = Ok (evE cf a ρ g) (fun x g => Ok (evE cf b ρ g) (fun y g => Ok (repM fz x y g) Q E) E) E := by simp only [evE, Ok_bindM]
theorem o_isi {ts : List Ty} {many : Bool} : Ok (evE cf (.isi a ts many) ρ g) Q E = Ok (evE cf a ρ g) (fun x g => OO (isiAny (rd g x) ts) fun b => Q (.bl b) g) E := by simp only [evE, Ok_bindM, Ok_optM, rdM, Ok_ok, Ok_pure]
theorem o_lc {fz : Bool} {own : List Nat} {elt : DL.E} {t : Tg} {it : DL.I} {ifs : Es} : Ok (evE cf (.lc fz own elt t it ifs) ρ g) Q E = Ok (evI cf it ρ g) (fun i g => Ok (loopC i g.length (fun d => do
      let ρ1 ← asgT cf t d (wipeE ρ own)
      let k ← evIfs cf ifs ρ1
      if k then do
        let y ← evE cf elt ρ1
        pure (some y)
      else pure none) (i.len (g ++ [.lst []])) 0 (g ++ [.lst []])) (fun _ g' => Ok (endL fz g.length g') Q E) E) E := by simp only [evE, Ok_bindM, newL, Ok_ok]
end
section
variable {cf : Cf} {E : Exn → G → Prop} {g : G} {ρ : Env'} {a b e : DL.E} {es : Es}
theorem o_nil {Q : List D → G → Prop} : Ok (evEs cf .nil ρ g) Q E = Q [] g := by simp only [evEs, Ok_pure]
theorem o_cons {Q : List D → G → Prop} : Ok (evEs cf (.cons e es) ρ g) Q E = Ok (evE cf e ρ g) (fun x g => Ok (evEs cf es ρ g) (fun xs g => Q (x :: xs) g) E) E := by simp only [evEs, Ok_bindM, Ok_pure]
theorem o_pnil {Q : List (D × D) → G → Prop} : Ok (evPs cf .nil ρ g) Q E = Q [] g := by simp only [evPs, Ok_pure]
theorem o_pcons {k v : DL.E} {ps : Ps} {Q : List (D × D) → G → Prop} : Ok (evPs cf (.cons k v ps) ρ g) Q E = Ok (evE cf k ρ g) (fun x g => Ok (evE cf v ρ g) (fun y g => Ok (evPs cf ps ρ g) (fun xs g => Q ((x, y) :: xs) g) E) E) E := by simp only [evPs, Ok_bindM, Ok_pure]
theorem o_part0 {Q : Option Int → G → Prop} : Ok (evPart cf .nil ρ g) Q E = Q none g := by simp only [evPart, Ok_pure]
theorem o_part1 {Q : Option Int → G → Prop} : Ok (evPart cf (.cons e .nil) ρ g) Q E = Ok (evE cf e ρ g) (fun x g => match x with
    | .int i => Q (some i) g
    | _ => False) E := by
  simp only [evPart, Ok_bindM]
  congr 1
  funext x g
  cases x <;> with_unfolding_all rfl
theorem o_T {Q : Bool → G → Prop} : Ok (evT cf e ρ g) Q E = Ok (evE cf e ρ g) (fun x g => OO (truD (rd g x)) fun b => Q b g) E := by simp only [evT, evTM, Ok_bindM, Ok_optM, rdM, Ok_ok]
theorem o_ifs0 {Q : Bool → G → Prop} : Ok (evIfs cf .nil ρ g) Q E = Q true g := by simp only [evIfs, Ok_pure]
theorem o_ifs1 {Q : Bool → G → Prop} : Ok (evIfs cf (.cons e .nil) ρ g) Q E = Ok (evE cf e ρ g) (fun x g => OO (truD (rd g x)) fun b => Q b g) E := by rw [evIfs_one, o_T]
variable {Q : Env' → G → Prop} {d : D}
theorem o_tg {i : Nat} : Ok (asgT cf (.v i) d ρ g) Q E = Q (ρ.set i (some d)) g := by simp only [asgT, Ok_pure]
theorem o_tgT {ts : Tgs} : Ok (asgT cf (.tup ts) d ρ g) Q E = OO (itemsD (rd g d)) fun ds => ds.length = ts.len ∧ Ok (asgTs cf ts ds ρ g) Q E := by simp only [asgT, Ok_bindM, Ok_optM, Ok_needM, rdM, Ok_ok]
theorem o_tgI : Ok (asgT cf (.ix a b) d ρ g) Q E = Ok (evE cf a ρ g) (fun x g => Ok (evE cf b ρ g) (fun y g => Ok (setItemM x y d g) (fun _ g => Q ρ g) E) E) E := by simp only [asgT, Ok_bindM, Ok_pure]
theorem o_tgF {T : Tb} {n : Nat} {f : Str} : Ok (asgT (cfN T n) (.fld a f) d ρ g) Q E = Ok (evE (cfN T n) a ρ g) (fun x g => Ok (setFldM T.fld x f d g) (fun _ g => Q ρ g) E) E := by simp only [asgT, Ok_bindM, Ok_pure, cfN_fld]
theorem o_tgn : Ok (asgTs cf .nil [] ρ g) Q E = Q ρ g := by simp only [asgTs, Ok_pure]
theorem o_tgc {t : Tg} {ts : Tgs} {ds : List D} : Ok (asgTs cf (.cons t ts) (d :: ds) ρ g) Q E = Ok (asgT cf t d ρ g) (fun ρ g => Ok (asgTs cf ts ds ρ g) Q E) E := by simp only [asgTs, Ok_bindM]
variable {QI : It0 → G → Prop}
theorem o_I : Ok (evI cf (.e a) ρ g) QI E = Ok (evE cf a ρ g) (fun x g => OO (itOf g x) fun it => QI it g) E := by
  simp only [evI, Ok_bindM]
  congr 1
  funext x g
  unfold itM
  cases itOf g x <;> with_unfolding_all rfl
theorem o_rng1 : Ok (evI cf (.rng1 a) ρ g) QI E = Ok (evE cf a ρ g) (fun x g => match x with
    | .int j => (-(2 ^ 62) ≤ j ∧ j < 2 ^ 62) ∧ QI (.fix (rngD 0 j)) g
    | _ => False) E := by
  simp only [evI, Ok_bindM]
  congr 1
  funext x g
  cases x <;> first | with_unfolding_all rfl | skip
  simp only [Ok_bindM, Ok_needM, Ok_pure]
theorem o_rng2 : Ok (evI cf (.rng2 a b) ρ g) QI E = Ok (evE cf a ρ g) (fun x g => Ok (evE cf b ρ g) (fun y g => match x, y with
    | .int i, .int j => (-(2 ^ 62) ≤ i ∧ i < 2 ^ 62 ∧ -(2 ^ 62) ≤ j ∧ j < 2 ^ 62) ∧ QI (.fix (rngD i j)) g
    | _, _ => False) E) E := by
  simp only [evI, Ok_bindM]
  congr 1
  funext x g
  congr 1
  funext y g
  cases x <;> first | with_unfolding_all rfl | skip
  cases y <;> first | with_unfolding_all rfl | skip
  simp only [Ok_bindM, Ok_needM, Ok_pure]
theorem o_enum : Ok (evI cf (.enum a) ρ g) QI E = Ok (evE cf a ρ g) (fun x g => match x with
    | .lst ds => QI (.fix (enumD ds)) g
    | .tup ds => QI (.fix (enumD ds)) g
    | _ => False) E := by
  simp only [evI, Ok_bindM]
  congr 1
  funext x g
  cases x <;> with_unfolding_all rfl
theorem o_zip : Ok (evI cf (.zip a b) ρ g) QI E = Ok (evE cf a ρ g) (fun x g => Ok (evE cf b ρ g) (fun y g => match x, y with
    | .lst xs, .lst ys => QI (.fix (zipD xs ys)) g
    | .tup xs, .tup ys => QI (.fix (zipD xs ys)) g
    | _, _ => False) E) E := by
  simp only [evI, Ok_bindM]
  congr 1
  funext x g
  congr 1
  funext y g
  cases x <;> first | with_unfolding_all rfl | (cases y <;> with_unfolding_all rfl)
theorem o_items : Ok (evI cf (.items a) ρ g) QI E = Ok (evE cf a ρ g) (fun x g => match x with
    | .dct ks vs => atomsB ks = true ∧ QI (.fix (zipD ks vs)) g
    | _ => False) E := by
  simp only [evI, Ok_bindM]
  congr 1
  funext x g
  cases x <;> first | with_unfolding_all rfl | skip
  rename_i ks vs
  cases h : atomsB ks
  · simp only [h, Bool.false_eq_true, if_false, false_and, Ok_badM]
  · simp only [h, if_true, true_and, Ok_pure]
theorem o_vals : Ok (evI cf (.vals a) ρ g) QI E = Ok (evE cf a ρ g) (fun x g => match x with
    | .dct ks vs => atomsB ks = true ∧ QI (.fix vs) g
    | _ => False) E := by
  simp only [evI, Ok_bindM]
  congr 1
  funext x g
  cases x <;> first | with_unfolding_all rfl | skip
  rename_i ks vs
  cases h : atomsB ks
  · simp only [h, Bool.false_eq_true, if_false, false_and, Ok_badM]
  · simp only [h, if_true, true_and, Ok_pure]
end
/-! statements -/
def thenS (cf : Cf) (ss : Ss) (Q : Fl × Env' → G → Prop) (E : Exn → G → Prop) : Fl × Env' → G → Prop
  | (.nx, ρ), g => Ok (evSs cf ss ρ g) Q E
  | x, g => Q x g
def retS (Q : D → G → Prop) (E : Exn → G → Prop) : Fl × Env' → G → Prop
  | (.rt d, _), g => Q d g
  | (.nx, _), g => Q .non g
  | (.rs e, _), g => E e g
  | _, _ => False
section
variable {cf : Cf} {Q : Fl × Env' → G → Prop} {E : Exn → G → Prop} {g : G} {ρ : Env'} {a b e : DL.E} {es : Es} {ss : Ss} {s : DL.S}
theorem Ok_liftS {α : Type} {m : M α} {k : α → M (Fl × Env')} : Ok (liftS ρ m k g) Q E = Ok (m g) (fun a g => Ok (k a g) Q E) (fun e g => Q (.rs e, ρ) g) := by
  unfold liftS
  cases m g <;> with_unfolding_all rfl
theorem o_ssn : Ok (evSs cf .nil ρ g) Q E = Q (.nx, ρ) g := by simp only [evSs, Ok_pure]
theorem o_ssc : Ok (evSs cf (.cons s ss) ρ g) Q E = Ok (evS cf s ρ g) (thenS cf ss Q E) E := by
  simp only [evSs]
  unfold seqS
  rw [Ok_bind]
  congr 1
  funext x g
  obtain ⟨f, ρ⟩ := x
  cases f <;> with_unfolding_all rfl
theorem th_nx : thenS cf ss Q E (.nx, ρ) g = Ok (evSs cf ss ρ g) Q E := by with_unfolding_all rfl
theorem th_bk : thenS cf ss Q E (.bk, ρ) g = Q (.bk, ρ) g := by with_unfolding_all rfl
theorem th_ct : thenS cf ss Q E (.ct, ρ) g = Q (.ct, ρ) g := by with_unfolding_all rfl
theorem th_rt {d : D} : thenS cf ss Q E (.rt d, ρ) g = Q (.rt d, ρ) g := by with_unfolding_all rfl
theorem th_rs {x : Exn} : thenS cf ss Q E (.rs x, ρ) g = Q (.rs x, ρ) g := by with_unfolding_all rfl
theorem rt_rt {Q : D → G → Prop} {d : D} : retS Q E (.rt d, ρ) g = Q d g := by with_unfolding_all rfl
theorem rt_nx {Q : D → G → Prop} : retS Q E (.nx, ρ) g = Q .non g := by with_unfolding_all rfl
theorem rt_rs {Q : D → G → Prop} {x : Exn} : retS Q E (.rs x, ρ) g = E x g := by with_unfolding_all rfl
theorem o_ex : Ok (evS cf (.ex a) ρ g) Q E = Ok (evE cf a ρ g) (fun _ g => Q (.nx, ρ) g) (fun e g => Q (.rs e, ρ) g) := by simp only [evS, Ok_liftS, Ok_pure]
theorem o_ret : Ok (evS cf (.ret a) ρ g) Q E = Ok (evE cf a ρ g) (fun d g => Q (.rt d, ρ) g) (fun e g => Q (.rs e, ρ) g) := by simp only [evS, Ok_liftS, Ok_pure]
theorem o_retn : Ok (evS cf .retn ρ g) Q E = Q (.rt .non, ρ) g := by simp only [evS, Ok_pure]
theorem o_asg {t : Tg} : Ok (evS cf (.asg t a) ρ g) Q E = Ok (evE cf a ρ g) (fun d g => Ok (asgT cf t d ρ g) (fun ρ g => Q (.nx, ρ) g) Never) (fun e g => Q (.rs e, ρ) g) := by simp only [evS, Ok_liftS, Ok_bindM, Ok_noEx, Ok_pure]
theorem o_par {is : List Nat} : Ok (evS cf (.par is es) ρ g) Q E = Ok (evEs cf es ρ g) (fun ds g => OO (parSet is ds ρ) fun ρ => Q (.nx, ρ) g) (fun e g => Q (.rs e, ρ) g) := by
  simp only [evS, Ok_liftS]
  congr 1
  funext ds g
  cases parSet is ds ρ <;> with_unfolding_all rfl
theorem o_augv {i : Nat} {op : Op2} : Ok (evS cf (.augv i op a) ρ g) Q E = OO (slot ρ i) fun x => Ok (evE cf a ρ g) (fun y g => OO (aug2 op (rd g x) (rd g y)) fun z => Q (.nx, ρ.set i (some z)) g) (fun e g => Q (.rs e, ρ) g) := by
  simp only [evS, Ok_liftS, Ok_bindM, Ok_optM, rdM, Ok_ok, Ok_pure]
theorem o_iff {xs ys : Ss} : Ok (evS cf (.iff a xs ys) ρ g) Q E = Ok (evE cf a ρ g) (fun x g => OO (truD (rd g x)) fun k => if k then Ok (evSs cf xs ρ g) Q E else Ok (evSs cf ys ρ g) Q E) (fun e g => Q (.rs e, ρ) g) := by
  simp only [evS, Ok_liftS, o_T]
  congr 1
  funext x g
  congr 1
  funext k
  cases k <;> with_unfolding_all rfl
theorem o_for {t : Tg} {it : DL.I} {xs : Ss} : Ok (evS cf (.forr t it xs) ρ g) Q E = Ok (evI cf it ρ g) (fun i g => Ok (loopS i (fun d ρ => do
      let ρ1 ← noEx (asgT cf t d ρ)
      evSs cf xs ρ1) (i.len g) 0 ρ g) Q E) (fun e g => Q (.rs e, ρ) g) := by simp only [evS, Ok_liftS]
theorem o_whl {xs : Ss} : Ok (evS cf (.whl a xs) ρ g) Q E = Ok (whileS (evT cf a) (evSs cf xs) cf.wf ρ g) Q E := by simp only [evS]
theorem o_brk : Ok (evS cf .brk ρ g) Q E = Q (.bk, ρ) g := by simp only [evS, Ok_pure]
theorem o_cnt : Ok (evS cf .cnt ρ g) Q E = Q (.ct, ρ) g := by simp only [evS, Ok_pure]
theorem o_pas : Ok (evS cf .pas ρ g) Q E = Q (.nx, ρ) g := by simp only [evS, Ok_pure]
theorem o_frz {i : Nat} : Ok (evS cf (.frz i) ρ g) Q E = OO (slot ρ i) fun d => Ok (frzM d g) (fun d' g => Q (.nx, ρ.set i (some d')) g) (fun e g => Q (.rs e, ρ) g) := by simp only [evS, Ok_liftS, Ok_bindM, Ok_optM, Ok_pure]
/-- raised -/
theorem o_rse {T : Tb} {n : Nat} {C : Str} : Ok (evS (cfN T n) (.rse C es) ρ g) Q E = Ok (evEs (cfN T n) es ρ g) (fun ds g => OO (T.exk.lookup C) fun fs => match fs with
    | [] => (ds.length ≤ 1000 ∧ ds ≠ []) ∧ Q (.rs ⟨C, [], []⟩, ρ) g
    | fs => ds.length = fs.length ∧ Q (.rs ⟨C, fs.reverse, ds.reverse⟩, ρ) g) (fun e g => Q (.rs e, ρ) g) := by
  simp only [evS, Ok_liftS, cfN_exk]
  congr 1
  funext ds g
  cases T.exk.lookup C with
  | none => simp only [OO_none, Ok_badM]
  | some fs =>
    cases fs with
    | nil =>
      simp only [OO_some]
      by_cases h : ds.length ≤ 1000 ∧ ds ≠ []
      · rw [if_pos h, Ok_pure]; simp only [h, true_and, and_self, ne_eq, not_false_eq_true]
      · rw [if_neg h, Ok_badM]; simp only [h, false_and]
    | cons f fs =>
      simp only [OO_some]
      by_cases h : ds.length = (f :: fs).length
      · rw [if_pos h, Ok_pure]; simp only [h, true_and]
      · rw [if_neg h, Ok_badM]; simp only [h, false_and]
def triS (cf : Cf) (hs : Hs) (Q : Fl × Env' → G → Prop) (E : Exn → G → Prop) : Fl × Env' → G → Prop
  | (.rs e, ρ), g => Ok (evHs cf hs e ρ g) Q E
  | x, g => Q x g
theorem tr_rs {hs : Hs} {e : Exn} : triS cf hs Q E (.rs e, ρ) g = Ok (evHs cf hs e ρ g) Q E := by with_unfolding_all rfl
theorem tr_nx {hs : Hs} : triS cf hs Q E (.nx, ρ) g = Q (.nx, ρ) g := by with_unfolding_all rfl
theorem tr_bk {hs : Hs} : triS cf hs Q E (.bk, ρ) g = Q (.bk, ρ) g := by with_unfolding_all rfl
theorem tr_ct {hs : Hs} : triS cf hs Q E (.ct, ρ) g = Q (.ct, ρ) g := by with_unfolding_all rfl
theorem tr_rt {hs : Hs} {d : D} : triS cf hs Q E (.rt d, ρ) g = Q (.rt d, ρ) g := by with_unfolding_all rfl
theorem o_tri {b : Ss} {hs : Hs} : Ok (evS cf (.tri b hs) ρ g) Q E = Ok (evSs cf b ρ g) (triS cf hs Q E) E := by
  simp only [evS]
  rw [Ok_bind]
  congr 1
  funext x g
  obtain ⟨f, ρ⟩ := x
  cases f <;> with_unfolding_all rfl
def noR (Q : Fl × Env' → G → Prop) : Fl × Env' → G → Prop
  | (.rs _, _), _ => False
  | x, g => Q x g
theorem nr_rs {e : Exn} : noR Q (.rs e, ρ) g = False := by with_unfolding_all rfl
theorem nr_nx : noR Q (.nx, ρ) g = Q (.nx, ρ) g := by with_unfolding_all rfl
theorem nr_bk : noR Q (.bk, ρ) g = Q (.bk, ρ) g := by with_unfolding_all rfl
theorem nr_ct : noR Q (.ct, ρ) g = Q (.ct, ρ) g := by with_unfolding_all rfl
theorem nr_rt {d : D} : noR Q (.rt d, ρ) g = Q (.rt d, ρ) g := by with_unfolding_all rfl
theorem Ok_noRs {m : M (Fl × Env')} : Ok (noRs m g) Q E = Ok (m g) (noR Q) E := by
  unfold noRs
  cases m g with
  | ok x g =>
    obtain ⟨f, ρ⟩ := x
    cases f <;> with_unfolding_all rfl
  | _ => with_unfolding_all rfl
theorem o_hn {x : Exn} : Ok (evHs cf .nil x ρ g) Q E = Q (.rs x, ρ) g := by simp only [evHs, Ok_pure]
theorem o_hc {T : Tb} {n : Nat} {C : Str} {i : Option Nat} {ss : Ss} {hs : Hs} {x : Exn} : Ok (evHs (cfN T n) (.cons C i ss hs) x ρ g) Q E = OO (T.exm.lookup (x.cls, C)) fun b => if b then (match i with
    | none => Ok (evSs (cfN T n) ss ρ g) (noR Q) E
    | some i => Ok (evSs (cfN T n) ss (ρ.set i (some (.exc x.cls x.ns x.vs))) g) (noR fun y g => Q (y.1, y.2.set i none) g) E) else Ok (evHs (cfN T n) hs x ρ g) Q E := by
  simp only [evHs, cfN_exm]
  cases T.exm.lookup (x.cls, C) with
  | none => simp only [OO_none, Ok_badM]
  | some b =>
    cases b with
    | false => simp only [OO_some, Bool.false_eq_true, if_false]
    | true =>
      cases i with
      | none => simp only [OO_some, if_true, Ok_noRs]
      | some i =>
        simp only [OO_some, if_true, Ok_bind, Ok_noRs, Ok_pure]
/-- a call of a def of the table -/
theorem call_dfl {T : Tb} {n : Nat} {f : Str} {d : Def} {ds : List D} {Q : D → G → Prop} {E : Exn → G → Prop} (h : T.defs.lookup f = some d) (hl : ds.length ≤ d.ar ∧ d.ar ≤ ds.length + d.df.length) : Ok ((cfN T (n + 1)).call f ds g) Q E = Ok (evSs (cfN T n) d.body (start0 d.nn (ds ++ d.df.drop (ds.length + d.df.length - d.ar))) g) (retS Q E) Never := by
  have e : (cfN T (n + 1)).call f ds g = runB (evSs (cfN T n) d.body (start0 d.nn (ds ++ d.df.drop (ds.length + d.df.length - d.ar))) g) := by
    show callN T (bodyF (evSs (cfN T n))) f ds g = _
    unfold callN
    rw [h]
    simp only
    rw [if_pos hl]
    rfl
  rw [e]
  unfold runB
  cases evSs (cfN T n) d.body (start0 d.nn (ds ++ d.df.drop (ds.length + d.df.length - d.ar))) g with
  | ok x g =>
    obtain ⟨f, ρ⟩ := x
    cases f <;> with_unfolding_all rfl
  | _ => with_unfolding_all rfl
theorem call_def {T : Tb} {n : Nat} {f : Str} {d : Def} {ds : List D} {Q : D → G → Prop} {E : Exn → G → Prop} (h : T.defs.lookup f = some d) (hl : ds.length = d.ar) : Ok ((cfN T (n + 1)).call f ds g) Q E = Ok (evSs (cfN T n) d.body (start0 d.nn ds) g) (retS Q E) Never := by
  rw [call_dfl h ⟨by omega, by omega⟩]
  rw [show ds.length + d.df.length - d.ar = d.df.length by omega, List.drop_length, List.append_nil]
/-! loops -/
theorem loop_ok0 {ds : List D} {body : D → Env' → M (Fl × Env')} (Inv : Nat → Env' → G → Prop)
    (step : ∀ i d ρ g, ds[i]? = some d → Inv i ρ g → Ok (body d ρ g) (fun x g => match x with
      | (.nx, ρ) => Inv (i + 1) ρ g
      | (.ct, ρ) => Inv (i + 1) ρ g
      | (.bk, ρ) => Q (.nx, ρ) g
      | x => Q x g) E) (fin : ∀ ρ g, Inv ds.length ρ g → Q (.nx, ρ) g) : ∀ (k i : Nat) (ρ : Env') (g : G), i + k = ds.length → Inv i ρ g → Ok (loopS (.fix ds) body k i ρ g) Q E := by
  intro k
  induction k with
  | zero =>
    intro i ρ g hk hi
    have hi' : i = ds.length := by omega
    subst hi'
    simp only [loopS, It0.at, List.getElem?_eq_none (Nat.le_refl _)]
    show Ok (.ok (.nx, ρ) g) Q E
    rw [Ok_ok]
    exact fin ρ g hi
  | succ k ih =>
    intro i ρ g hk hi
    have hlt : i < ds.length := by omega
    have e : ds[i]? = some ds[i] := List.getElem?_eq_getElem hlt
    simp only [loopS, It0.at, e, Ok_bind]
    refine (step i _ ρ g e hi).mono (fun x g h => ?_) fun _ _ h => h
    obtain ⟨f, ρ⟩ := x
    cases f with
    | nx => exact ih (i + 1) ρ g (by omega) h
    | ct => exact ih (i + 1) ρ g (by omega) h
    | bk => exact Ok.of rfl h
    | rt d => exact Ok.of rfl h
    | rs x => exact Ok.of rfl h
/-- a loop over what stands: an invariant by the turn -/
theorem loop_fix {ds : List D} {body : D → Env' → M (Fl × Env')} (Inv : Nat → Env' → G → Prop) (h0 : Inv 0 ρ g)
    (step : ∀ i d ρ g, ds[i]? = some d → Inv i ρ g → Ok (body d ρ g) (fun x g => match x with
      | (.nx, ρ) => Inv (i + 1) ρ g
      | (.ct, ρ) => Inv (i + 1) ρ g
      | (.bk, ρ) => Q (.nx, ρ) g
      | x => Q x g) E) (fin : ∀ ρ g, Inv ds.length ρ g → Q (.nx, ρ) g) : Ok (loopS (.fix ds) body ((It0.fix ds).len g) 0 ρ g) Q E :=
  loop_ok0 Inv step fin _ 0 ρ g (by simp [It0.len]) h0
/-- a loop over a few things, each written out -/
theorem loop_nil {body : D → Env' → M (Fl × Env')} : Ok (loopS (.fix []) body ((It0.fix []).len g) 0 ρ g) Q E = Q (.nx, ρ) g := by with_unfolding_all rfl
def loopN (body : D → Env' → M (Fl × Env')) (ds : List D) (Q : Fl × Env' → G → Prop) (E : Exn → G → Prop) : Fl × Env' → G → Prop
  | (.nx, ρ), g => Ok (loopS (.fix ds) body ((It0.fix ds).len g) 0 ρ g) Q E
  | (.ct, ρ), g => Ok (loopS (.fix ds) body ((It0.fix ds).len g) 0 ρ g) Q E
  | (.bk, ρ), g => Q (.nx, ρ) g
  | x, g => Q x g
theorem ln_nx {body : D → Env' → M (Fl × Env')} {ds : List D} : loopN body ds Q E (.nx, ρ) g = Ok (loopS (.fix ds) body ((It0.fix ds).len g) 0 ρ g) Q E := by with_unfolding_all rfl
theorem ln_ct {body : D → Env' → M (Fl × Env')} {ds : List D} : loopN body ds Q E (.ct, ρ) g = Ok (loopS (.fix ds) body ((It0.fix ds).len g) 0 ρ g) Q E := by with_unfolding_all rfl
theorem ln_bk {body : D → Env' → M (Fl × Env')} {ds : List D} : loopN body ds Q E (.bk, ρ) g = Q (.nx, ρ) g := by with_unfolding_all rfl
theorem ln_rt {body : D → Env' → M (Fl × Env')} {ds : List D} {d : D} : loopN body ds Q E (.rt d, ρ) g = Q (.rt d, ρ) g := by with_unfolding_all rfl
theorem ln_rs {body : D → Env' → M (Fl × Env')} {ds : List D} {d : Exn} : loopN body ds Q E (.rs d, ρ) g = Q (.rs d, ρ) g := by with_unfolding_all rfl
theorem shift_loop {body : D → Env' → M (Fl × Env')} {d : D} {ds : List D} : ∀ (k i : Nat) (ρ : Env') (g : G), loopS (.fix (d :: ds)) body k (i + 1) ρ g = loopS (.fix ds) body k i ρ g := by
  intro k
  induction k with
  | zero => intro i ρ g; simp only [loopS, It0.at, List.getElem?_cons_succ]
  | succ k ih =>
    intro i ρ g
    simp only [loopS, It0.at, List.getElem?_cons_succ, ih]
    cases ds[i]? with
    | none => with_unfolding_all rfl
    | some d' =>
      simp only
      cases body d' ρ g with
      | ok x g' =>
        obtain ⟨f, ρ'⟩ := x
        cases f <;> simp only [R.bind] <;> first | exact ih _ _ _ | with_unfolding_all rfl
      | _ => with_unfolding_all rfl
theorem loop_cons {body : D → Env' → M (Fl × Env')} {d : D} {ds : List D} : Ok (loopS (.fix (d :: ds)) body ((It0.fix (d :: ds)).len g) 0 ρ g) Q E = Ok (body d ρ g) (loopN body ds Q E) E := by
  show Ok (loopS (.fix (d :: ds)) body (ds.length + 1) 0 ρ g) Q E = _
  simp only [loopS, It0.at, List.getElem?_cons_zero, Ok_bind]
  congr 1
  funext x g
  obtain ⟨f, ρ'⟩ := x
  cases f <;> simp only [loopN, It0.len] <;> first | with_unfolding_all rfl | (rw [shift_loop])
theorem body_for {t : Tg} {xs : Ss} {d : D} : Ok ((do
      let ρ1 ← noEx (asgT cf t d ρ)
      evSs cf xs ρ1 : M (Fl × Env')) g) Q E = Ok (asgT cf t d ρ g) (fun ρ g => Ok (evSs cf xs ρ g) Q E) Never := by
  rw [Ok_bindM, Ok_noEx]
end
end DL

set_option Elab.async false
set_option linter.all false
set_option maxRecDepth 100000
set_option maxHeartbeats 4000000
/-! the deep layer: steps of a run -/
namespace DL
open PySem PySem.Spec L2

section
variable {α : Type} {Q : D → Prop} {i j : Int} {x y : Str} {xs ys : List D} {g : G} {d : D} {ρ : Env'} {n : Nat}
theorem sv0 {o : Option D} : slot (o :: ρ) 0 = o := by with_unfolding_all rfl
theorem svS {o : Option D} : slot (o :: ρ) (n + 1) = slot ρ n := by with_unfolding_all rfl
theorem rdI : rd g (.int i) = .int i := by with_unfolding_all rfl
theorem rdB {b : Bool} : rd g (.bl b) = .bl b := by with_unfolding_all rfl
theorem rdS : rd g (.str x) = .str x := by with_unfolding_all rfl
theorem rdT : rd g (.tup xs) = .tup xs := by with_unfolding_all rfl
theorem rdL : rd g (.lst xs) = .lst xs := by with_unfolding_all rfl
theorem rdD : rd g (.dct xs ys) = .dct xs ys := by with_unfolding_all rfl
theorem rdN : rd g .non = .non := by with_unfolding_all rfl
theorem rdO {C : Str} {ns : List Str} : rd g (.obj C ns xs) = .obj C ns xs := by with_unfolding_all rfl
theorem rdF : rd g (.fn x) = .fn x := by with_unfolding_all rfl
theorem rdRL (h : g[n]? = some (.lst xs)) : rd g (.ref n) = .lst xs := by simp only [rd, h]
theorem rdRD (h : g[n]? = some (.dct xs ys)) : rd g (.ref n) = .dct xs ys := by simp only [rd, h]
theorem p_add : op2 .add (.int i) (.int j) = some (.int (i + j)) := by with_unfolding_all rfl
theorem p_sub : op2 .sub (.int i) (.int j) = some (.int (i - j)) := by with_unfolding_all rfl
theorem p_mul : OO (op2 .mul (.int i) (.int j)) Q = (mulOk i j ∧ Q (.int (i * j))) := by
  unfold op2
  by_cases h : mulOk i j
  · simp only [if_pos h, h, true_and]; with_unfolding_all rfl
  · simp only [if_neg h, h, false_and]; with_unfolding_all rfl
def divOk (j : Int) : Prop := 0 < j ∧ j.natAbs.log2 < 9000
theorem divOk_of {j : Int} (h : 0 < j) (h2 : j < 2 ^ 64) : divOk j := ⟨h, by
  have : j.natAbs < 2 ^ 64 := by omega
  have h3 : j.natAbs ≠ 0 := by omega
  have := (Nat.log2_lt h3).mpr this
  omega⟩
theorem mulOk_of {i j : Int} (h : i.natAbs < 2 ^ 64) : mulOk i j := .inl h
theorem mulOk_of' {i j : Int} (h : j.natAbs < 2 ^ 64) : mulOk i j := .inr (.inl h)
theorem p_fdiv : OO (op2 .fdiv (.int i) (.int j)) Q = (divOk j ∧ Q (.int (i / j))) := by
  unfold op2 divOk
  by_cases h : 0 < j ∧ j.natAbs.log2 < 9000
  · simp only [if_pos h]; simp only [h, true_and, and_self]; with_unfolding_all rfl
  · simp only [if_neg h]; simp only [h, false_and]; with_unfolding_all rfl
theorem p_mod : OO (op2 .mod (.int i) (.int j)) Q = (0 < j ∧ Q (.int (i % j))) := by
  unfold op2
  by_cases h : 0 < j
  · simp only [if_pos h, h, true_and]; with_unfolding_all rfl
  · simp only [if_neg h, h, false_and]; with_unfolding_all rfl
theorem p_pow : OO (op2 .pow (.int i) (.int j)) Q = ((0 ≤ j ∧ j ≤ 1000000 ∧ i.natAbs < 2 ^ 64) ∧ Q (.int (i ^ j.toNat))) := by
  unfold op2
  by_cases h : 0 ≤ j ∧ j ≤ 1000000 ∧ i.natAbs < 2 ^ 64
  · simp only [if_pos h]; simp only [h, true_and, and_self]; with_unfolding_all rfl
  · simp only [if_neg h]; simp only [h, false_and]; with_unfolding_all rfl
theorem p_addS : OO (op2 .add (.str x) (.str y)) Q = (x.length + y.length ≤ sizeLine ∧ Q (.str (x ++ y))) := by
  unfold op2
  by_cases h : x.length + y.length ≤ sizeLine
  · simp only [if_pos h, h, true_and]; with_unfolding_all rfl
  · simp only [if_neg h, h, false_and]; with_unfolding_all rfl
theorem p_addT : OO (op2 .add (.tup xs) (.tup ys)) Q = (xs.length + ys.length ≤ sizeLine ∧ Q (.tup (xs ++ ys))) := by
  unfold op2
  by_cases h : xs.length + ys.length ≤ sizeLine
  · simp only [if_pos h, h, true_and]; with_unfolding_all rfl
  · simp only [if_neg h, h, false_and]; with_unfolding_all rfl
theorem p_addL : OO (op2 .add (.lst xs) (.lst ys)) Q = (xs.length + ys.length ≤ sizeLine ∧ Q (.lst (xs ++ ys))) := by
  unfold op2
  by_cases h : xs.length + ys.length ≤ sizeLine
  · simp only [if_pos h, h, true_and]; with_unfolding_all rfl
  · simp only [if_neg h, h, false_and]; with_unfolding_all rfl
theorem c_lt : cmpD .lt (.int i) (.int j) = some (decide (i < j)) := by with_unfolding_all rfl
theorem c_le : cmpD .le (.int i) (.int j) = some (decide (i ≤ j)) := by with_unfolding_all rfl
theorem c_gt : cmpD .gt (.int i) (.int j) = some (decide (j < i)) := by with_unfolding_all rfl
theorem c_ge : cmpD .ge (.int i) (.int j) = some (decide (j ≤ i)) := by with_unfolding_all rfl
theorem c_eq {x y : D} : cmpD .eq x y = eqD x y := by unfold cmpD; with_unfolding_all rfl
theorem c_ne {x y : D} {Q : Bool → Prop} : OO (cmpD .ne x y) Q = OO (eqD x y) fun b => Q (!b) := by
  unfold cmpD
  rw [OO_map]
theorem c_in {x y : D} : cmpD .isin x y = inD x y := by unfold cmpD; with_unfolding_all rfl
theorem c_nin {x y : D} {Q : Bool → Prop} : OO (cmpD .notin x y) Q = OO (inD x y) fun b => Q (!b) := by
  unfold cmpD
  rw [OO_map]
theorem e_int : eqD (.int i) (.int j) = some (i == j) := by unfold eqD eqO; simp only [dep, Nat.zero_le, Nat.min_self, if_true]
theorem e_str : eqD (.str x) (.str y) = some (x == y) := by unfold eqD eqO; simp only [dep, Nat.zero_le, Nat.min_self, if_true]
theorem e_bl {a b : Bool} : eqD (.bl a) (.bl b) = some (a == b) := by unfold eqD eqO; simp only [dep, Nat.zero_le, Nat.min_self, if_true]
theorem t_bl {b : Bool} : truD (.bl b) = some b := by with_unfolding_all rfl
theorem t_int : truD (.int i) = some (i != 0) := by with_unfolding_all rfl
theorem t_tup : truD (.tup xs) = some (!xs.isEmpty) := by with_unfolding_all rfl
theorem t_lst : truD (.lst xs) = some (!xs.isEmpty) := by with_unfolding_all rfl
theorem t_non : truD .non = some false := by with_unfolding_all rfl
theorem i_tup {kd : Str → Str → Option D} : ixD kd (.tup xs) (.int i) = atI xs i := by with_unfolding_all rfl
theorem i_lst {kd : Str → Str → Option D} : ixD kd (.lst xs) (.int i) = atI xs i := by with_unfolding_all rfl
theorem ok_a {k : Key} : okK xs (.a k) = atomsB xs := by with_unfolding_all rfl
theorem at_nil : atomsB [] = true := by with_unfolding_all rfl
theorem at_s : atomsB (.str x :: xs) = true := by with_unfolding_all rfl
theorem at_i : atomsB (.int i :: xs) = true := by with_unfolding_all rfl
theorem at_t {ks : List D} : atomsB (.tup ks :: xs) = false := by with_unfolding_all rfl
theorem i_dK {kd : Str → Str → Option D} {y : D} {k : TK} (h : keyOf y = some k) : OO (ixD kd (.dct xs ys) y) Q = (okK xs k = true ∧ OO (dlook xs ys k) Q) := by
  have e : ixD kd (.dct xs ys) y = if okK xs k = true then dlook xs ys k else none := by
    have e0 : ixD kd (.dct xs ys) y = (match keyOf y with
      | some k => if okK xs k = true then dlook xs ys k else none
      | none => none) := by
      cases y <;> with_unfolding_all rfl
    rw [e0, h]
  rw [e]
  cases h : okK xs k
  · simp only [h, Bool.false_eq_true, if_false, false_and, OO_none]
  · simp only [h, if_true, true_and]
theorem i_dS {kd : Str → Str → Option D} : OO (ixD kd (.dct xs ys) (.str x)) Q = (atomsB xs = true ∧ OO (dlook xs ys (.a (.inr x))) Q) := i_dK (k := .a (.inr x)) (by with_unfolding_all rfl)
theorem i_dI {kd : Str → Str → Option D} : OO (ixD kd (.dct xs ys) (.int i)) Q = (atomsB xs = true ∧ OO (dlook xs ys (.a (.inl i))) Q) := i_dK (k := .a (.inl i)) (by with_unfolding_all rfl)
theorem i_fn {kd : Str → Str → Option D} : ixD kd (.fn x) (.str y) = kd x y := by with_unfolding_all rfl
theorem s_tupl {lo hi : Option Int} : slD (.tup xs) lo hi = some (.tup (cutL xs lo hi)) := by with_unfolding_all rfl
theorem s_lstl {lo hi : Option Int} : slD (.lst xs) lo hi = some (.lst (cutL xs lo hi)) := by with_unfolding_all rfl
theorem n_tup : itOf g (.tup xs) = some (.fix xs) := by with_unfolding_all rfl
theorem n_lst : itOf g (.lst xs) = some (.fix xs) := by with_unfolding_all rfl
theorem n_dct {QI : It0 → Prop} : OO (itOf g (.dct xs ys)) QI = (atomsB xs = true ∧ QI (.fix xs)) := by
  have e : itOf g (.dct xs ys) = if atomsB xs = true then some (.fix xs) else none := by with_unfolding_all rfl
  rw [e]
  cases h : atomsB xs
  · simp only [h, Bool.false_eq_true, if_false, false_and, OO_none]
  · simp only [h, if_true, true_and, OO_some]
theorem n_str : itOf g (.str x) = some (.fix (signsD x)) := by with_unfolding_all rfl
theorem m_tup : itemsD (.tup xs) = some xs := by with_unfolding_all rfl
theorem m_lst : itemsD (.lst xs) = some xs := by with_unfolding_all rfl
end
/-! what stands at a place -/
def rdAt (n : Nat) : Option O → D
  | some (.lst ds) => .lst ds
  | some (.dct ks vs) => .dct ks vs
  | some (.ins C ns vs) => .obj C ns vs
  | _ => .ref n
theorem rdR {g : G} {n : Nat} : rd g (.ref n) = rdAt n g[n]? := by
  simp only [rd]
  cases g[n]? with
  | none => with_unfolding_all rfl
  | some o => cases o <;> with_unfolding_all rfl
def lenO (Q : D → Prop) : D → Prop
  | .tup xs => Q (.int xs.length)
  | .lst xs => Q (.int xs.length)
  | .str x => x.length ≤ sizeLine ∧ Q (.int x.length)
  | .dct ks _ => Q (.int ks.length)
  | _ => False
def seqO (Q : List D → Prop) : D → Prop
  | .tup xs => Q xs
  | .lst xs => Q xs
  | _ => False
def lstO (Q : List D → Prop) : D → Prop
  | .lst xs => Q xs
  | _ => False
def lsdO (Q : List D → Prop) : D → Prop
  | .tup xs => Q xs
  | .lst xs => Q xs
  | .dct ks _ => atomsB ks = true ∧ Q ks
  | _ => False
def dctO (Q : List D → List D → Prop) : D → Prop
  | .dct ks vs => Q ks vs
  | _ => False
def atO (Q : List D → Prop) : Option O → Prop
  | some (.lst xs) => Q xs
  | _ => False
def setO (i : D) (d : D) (Q : O → Prop) : Option O → Prop
  | some (.lst xs) => (match i with
    | .int k => OO (ixN xs.length k) fun j => Q (.lst (xs.set j d))
    | _ => False)
  | some (.dct ks vs) => OO (keyOf i) fun k => (ks.length < sizeLine ∧ okK ks k = true) ∧ Q (.dct (dput ks vs k d).1 (dput ks vs k d).2)
  | _ => False
def frzO (Q : D → Prop) : Option O → Prop
  | some (.lst xs) => Q (.lst xs)
  | some (.dct ks vs) => Q (.dct ks vs)
  | some (.ins C ns vs) => Q (.obj C ns vs)
  | _ => False
section
variable {Q : D → G → Prop} {QU : Unit → G → Prop} {E : Exn → G → Prop} {i j : Int} {x y : D} {xs ys ds : List D} {g : G} {d k : D} {n : Nat} {fz : Bool}
theorem b_len : Ok (biM .len [x] g) Q E = lenO (fun d => Q d g) (rd g x) := by
  show Ok (match rd g x with
    | .tup xs => .ok (.int xs.length) g
    | .lst xs => .ok (.int xs.length) g
    | .str x => if x.length ≤ sizeLine then .ok (.int x.length) g else .bad
    | .dct ks _ => .ok (.int ks.length) g
    | _ => .bad) Q E = _
  cases rd g x <;> first | with_unfolding_all rfl | skip
  rename_i x
  by_cases h : x.length ≤ sizeLine
  · simp only [if_pos h, lenO, h, true_and]; with_unfolding_all rfl
  · simp only [if_neg h, lenO, h, false_and]; with_unfolding_all rfl
theorem b_tup : Ok (biM .tuple [x] g) Q E = seqO (fun xs => Q (.tup xs) g) (rd g x) := by
  show Ok (match rd g x with
    | .tup xs => .ok (.tup xs) g
    | .lst xs => .ok (.tup xs) g
    | _ => .bad) Q E = _
  cases rd g x <;> with_unfolding_all rfl
theorem b_lstT : Ok (biM (.list true) [x] g) Q E = lsdO (fun xs => Q (.lst xs) g) (rd g x) := by
  show Ok (match rd g x with
    | .tup xs => mkL true xs g
    | .lst xs => mkL true xs g
    | .dct ks _ => if atomsB ks = true then mkL true ks g else .bad
    | _ => .bad) Q E = _
  cases rd g x <;> first | with_unfolding_all rfl | skip
  rename_i ks vs
  cases h : atomsB ks
  · simp only [lsdO, h, Bool.false_eq_true, if_false, false_and]; with_unfolding_all rfl
  · simp only [lsdO, h, if_true, true_and]; with_unfolding_all rfl
theorem b_lstF : Ok (biM (.list false) [x] g) Q E = lsdO (fun xs => Q (.ref g.length) (g ++ [.lst xs])) (rd g x) := by
  show Ok (match rd g x with
    | .tup xs => mkL false xs g
    | .lst xs => mkL false xs g
    | .dct ks _ => if atomsB ks = true then mkL false ks g else .bad
    | _ => .bad) Q E = _
  cases rd g x <;> first | with_unfolding_all rfl | skip
  rename_i ks vs
  cases h : atomsB ks
  · simp only [lsdO, h, Bool.false_eq_true, if_false, false_and]; with_unfolding_all rfl
  · simp only [lsdO, h, if_true, true_and]; with_unfolding_all rfl
theorem b_min : Ok (biM .min2 [.int i, .int j] g) Q E = Q (.int (if j < i then j else i)) g := by with_unfolding_all rfl
theorem b_max : Ok (biM .max2 [.int i, .int j] g) Q E = Q (.int (if j > i then j else i)) g := by with_unfolding_all rfl
theorem b_abs : Ok (biM .abs [.int i] g) Q E = Q (.int (if i < 0 then -i else i)) g := by with_unfolding_all rfl
theorem b_all : Ok (biM .all [x] g) Q E = lstO (fun xs => OO (boolsOf xs) fun bs => Q (.bl (bs.all id)) g) (rd g x) := by
  show Ok (match rd g x with
    | .lst xs => match boolsOf xs with
      | some bs => .ok (.bl (bs.all id)) g
      | none => .bad
    | _ => .bad) Q E = _
  cases rd g x <;> first | with_unfolding_all rfl | skip
  rename_i xs
  simp only [lstO]
  cases boolsOf xs <;> with_unfolding_all rfl
theorem b_any : Ok (biM .any [x] g) Q E = lstO (fun xs => OO (boolsOf xs) fun bs => Q (.bl (bs.any id)) g) (rd g x) := by
  show Ok (match rd g x with
    | .lst xs => match boolsOf xs with
      | some bs => .ok (.bl (bs.any id)) g
      | none => .bad
    | _ => .bad) Q E = _
  cases rd g x <;> first | with_unfolding_all rfl | skip
  rename_i xs
  simp only [lstO]
  cases boolsOf xs <;> with_unfolding_all rfl
theorem b_sum : Ok (biM .sum [x] g) Q E = lstO (fun xs => OO (intsOf xs) fun bs => Q (.int bs.sum) g) (rd g x) := by
  show Ok (match rd g x with
    | .lst xs => match intsOf xs with
      | some bs => .ok (.int bs.sum) g
      | none => .bad
    | _ => .bad) Q E = _
  cases rd g x <;> first | with_unfolding_all rfl | skip
  rename_i xs
  simp only [lstO]
  cases intsOf xs <;> with_unfolding_all rfl
theorem b_sort : Ok (biM (.sortI true) [x] g) Q E = lstO (fun xs => OO (intsOf xs) fun bs => bs.length < 64 ∧ Q (.lst ((sortI bs).map .int)) g) (rd g x) := by
  show Ok (match rd g x with
    | .lst xs => match intsOf xs with
      | some bs => sortM true bs g
      | none => .bad
    | _ => .bad) Q E = _
  cases rd g x <;> first | with_unfolding_all rfl | skip
  rename_i xs
  simp only [lstO]
  cases intsOf xs with
  | none => with_unfolding_all rfl
  | some bs =>
    unfold sortM
    by_cases h : bs.length < 64
    · simp only [if_pos h, OO, h, true_and]; with_unfolding_all rfl
    · simp only [if_neg h, OO, h, false_and]; with_unfolding_all rfl
theorem b_str : Ok (biM .strI [.int i] g) Q E = (i.natAbs.log2 < 1920 ∧ Q (.str (toString i)) g) := by
  show Ok ((if i.natAbs.log2 < 1920 then pure (.str (toString i)) else M.bad : M D) g) Q E = _
  by_cases h : i.natAbs.log2 < 1920
  · simp only [if_pos h, h, true_and]; with_unfolding_all rfl
  · simp only [if_neg h, h, false_and]; with_unfolding_all rfl
theorem mo_app : mtOk .append (.lst xs) = true := by with_unfolding_all rfl
theorem mo_pop : mtOk .pop (.lst xs) = true := by with_unfolding_all rfl
theorem mo_get : mtOk .get (.dct xs ys) = true := by with_unfolding_all rfl
theorem mo_join {x : Str} : mtOk .join (.str x) = true := by with_unfolding_all rfl
theorem a_app : Ok (mtM .append (.ref n) [d] g) Q E = atO (fun xs => xs.length < sizeLine ∧ Q .non (g.set n (.lst (xs ++ [d])))) g[n]? := by
  simp only [mtM, appendM]
  cases g[n]? with
  | none => with_unfolding_all rfl
  | some o =>
    cases o <;> first | with_unfolding_all rfl | skip
    rename_i xs
    by_cases hl : xs.length < sizeLine
    · simp only [if_pos hl, atO, hl, true_and]; with_unfolding_all rfl
    · simp only [if_neg hl, atO, hl, false_and]; with_unfolding_all rfl
theorem a_pop : Ok (mtM .pop (.ref n) [] g) Q E = atO (fun xs => OO xs[xs.length - 1]? fun y => Q y (g.set n (.lst xs.dropLast))) g[n]? := by
  simp only [mtM, popM]
  cases g[n]? with
  | none => with_unfolding_all rfl
  | some o =>
    cases o <;> first | with_unfolding_all rfl | skip
    rename_i xs
    simp only [atO]
    cases xs[xs.length - 1]? <;> with_unfolding_all rfl
theorem a_get : Ok (mtM .get x [k] g) Q E = dctO (fun ks vs => OO (keyOf k) fun k => okK ks k = true ∧ Q ((dlook ks vs k).getD .non) g) (rd g x) := by
  simp only [mtM, getM]
  cases rd g x <;> first | with_unfolding_all rfl | skip
  rename_i ks vs
  cases keyOf k with
  | none => with_unfolding_all rfl
  | some k =>
    cases h : okK ks k
    · simp only [dctO, OO, h, Bool.false_eq_true, if_false, false_and]; with_unfolding_all rfl
    · simp only [dctO, OO, h, if_true, true_and]; with_unfolding_all rfl
theorem a_get2 : Ok (mtM .get x [k, d] g) Q E = dctO (fun ks vs => OO (keyOf k) fun k => okK ks k = true ∧ Q ((dlook ks vs k).getD d) g) (rd g x) := by
  simp only [mtM, getM]
  cases rd g x <;> first | with_unfolding_all rfl | skip
  rename_i ks vs
  cases keyOf k with
  | none => with_unfolding_all rfl
  | some k =>
    cases h : okK ks k
    · simp only [dctO, OO, h, Bool.false_eq_true, if_false, false_and]; with_unfolding_all rfl
    · simp only [dctO, OO, h, if_true, true_and]; with_unfolding_all rfl
theorem a_join {x : Str} : Ok (mtM .join (.str x) [y] g) Q E = lstO (fun xs => OO (strsOf xs) fun ys => (ys.map (·.length)).sum + ys.length * x.length ≤ 16777216 ∧ Q (.str (Txt.join x ys)) g) (rd g y) := by
  simp only [mtM, joinM]
  cases rd g y <;> first | with_unfolding_all rfl | skip
  rename_i xs
  simp only [lstO]
  cases strsOf xs with
  | none => with_unfolding_all rfl
  | some ys =>
    by_cases h : (ys.map (·.length)).sum + ys.length * x.length ≤ 16777216
    · simp only [if_pos h, OO, h, true_and]; with_unfolding_all rfl
    · simp only [if_neg h, OO, h, false_and]; with_unfolding_all rfl
theorem mo_split {x : Str} : mtOk (.split fz) (.str x) = true := by with_unfolding_all rfl
theorem mo_upper {x : Str} : mtOk .upper (.str x) = true := by with_unfolding_all rfl
theorem mo_ext : mtOk .extend (.lst xs) = true := by with_unfolding_all rfl
theorem mo_clear : mtOk .clear (.lst xs) = true := by with_unfolding_all rfl
theorem a_splitT {x z : Str} : Ok (mtM (.split true) (.str x) [.str z] g) Q E = (((z.length == 0) = false ∧ x.length + 2 ≤ sizeLine) ∧ Q (.lst ((Txt.split x z).map .str)) g) := by
  simp only [mtM, splitM]
  by_cases h : (z.length == 0) = false ∧ x.length + 2 ≤ sizeLine
  · simp only [if_pos h, mkL, Ok_pure]; simp only [h, true_and, and_self]
  · simp only [if_neg h, Ok_badM]; simp only [h, false_and]
theorem a_upper {x : Str} : Ok (mtM .upper (.str x) [] g) Q E = (x.length ≤ 5592405 ∧ Q (.str (Txt.upper x)) g) := by
  simp only [mtM, upperM]
  by_cases h : x.length ≤ 5592405
  · simp only [h, if_true, Ok_pure, true_and]
  · simp only [h, if_false, Ok_badM, false_and]
theorem a_ext {m : Nat} : Ok (mtM .extend (.ref n) [.ref m] g) Q E = atO (fun xs => atO (fun ys => xs.length + ys.length ≤ sizeLine ∧ Q .non (g.set n (.lst (xs ++ ys)))) g[m]?) g[n]? := by
  simp only [mtM, extendM]
  cases g[n]? with
  | none => with_unfolding_all rfl
  | some o =>
    cases o <;> first | with_unfolding_all rfl | skip
    rename_i xs
    simp only [atO]
    cases g[m]? with
    | none => with_unfolding_all rfl
    | some o =>
      cases o <;> first | with_unfolding_all rfl | skip
      rename_i ys
      by_cases h : xs.length + ys.length ≤ sizeLine
      · simp only [if_pos h, h, true_and]; with_unfolding_all rfl
      · simp only [if_neg h, h, false_and]; with_unfolding_all rfl
theorem a_clear : Ok (mtM .clear (.ref n) [] g) Q E = atO (fun xs => Q .non (g.set n (.lst []))) g[n]? := by
  simp only [mtM, clearM]
  cases g[n]? with
  | none => with_unfolding_all rfl
  | some o => cases o <;> with_unfolding_all rfl
theorem mo_cnt : mtOk .count (.lst xs) = true := by with_unfolding_all rfl
theorem a_cnt {b : Bool} : Ok (mtM .count x [.bl b] g) Q E = lstO (fun xs => OO (boolsOf xs) fun bs => Q (.int (bs.filter (· == b)).length) g) (rd g x) := by
  simp only [mtM, countM]
  cases rd g x <;> first | with_unfolding_all rfl | skip
  rename_i xs
  simp only [lstO]
  cases boolsOf xs <;> with_unfolding_all rfl
theorem b_slen {ks : List Key} (h : atomKs xs = some ks) (hl : ks.length < 64) : Ok (slenM (.tup xs) g) Q E = Q (.int (seenK [] ks).length) g := by
  simp only [slenM, h, if_pos hl, Ok_ok]
def insO (Q : Str → List Str → List D → Prop) : Option O → Prop
  | some (.ins C ns vs) => Q C ns vs
  | _ => False
theorem x_endT : Ok (endO true n g) Q E = insO (fun C ns vs => Q (.obj C ns vs) (g.set n .gone)) g[n]? := by
  simp only [endO]
  cases g[n]? with
  | none => with_unfolding_all rfl
  | some o => cases o <;> with_unfolding_all rfl
theorem x_endF : Ok (endO false n g) Q E = insO (fun C ns vs => Q (.ref n) g) g[n]? := by
  simp only [endO]
  cases g[n]? with
  | none => with_unfolding_all rfl
  | some o => cases o <;> with_unfolding_all rfl
theorem cl_o {C : Str} {ns : List Str} : clsO g (.obj C ns xs) = some (C, ns) := by with_unfolding_all rfl
theorem cl_r {C : Str} {ns : List Str} (h : g[n]? = some (.ins C ns xs)) : clsO g (.ref n) = some (C, ns) := by simp only [clsO, h]
theorem ic_e {isi isx : Str → Str → Option Bool} {cs : List Str} {C : Str} {ns : List Str} : iscB isi isx cs g (.exc C ns xs) = isAny isx C cs := by with_unfolding_all rfl
theorem ic_o {isi isx : Str → Str → Option Bool} {cs : List Str} {C : Str} {ns : List Str} : iscB isi isx cs g (.obj C ns xs) = isAny isi C cs := by with_unfolding_all rfl
theorem rdE {C : Str} {ns : List Str} : rd g (.exc C ns xs) = .exc C ns xs := by with_unfolding_all rfl
theorem rep_T {k : Int} : Ok (repM true (.ref n) (.int k) g) Q E = atO (fun xs => (-(2 ^ 63) ≤ k ∧ k < 2 ^ 63 ∧ xs.length * k.toNat ≤ sizeLine) ∧ Q (.lst (List.replicate k.toNat xs).flatten) g) g[n]? := by
  simp only [repM]
  cases g[n]? with
  | none => with_unfolding_all rfl
  | some o =>
    cases o <;> first | with_unfolding_all rfl | skip
    rename_i xs
    simp only [atO]
    by_cases h : -(2 ^ 63) ≤ k ∧ k < 2 ^ 63 ∧ xs.length * k.toNat ≤ sizeLine
    · simp only [if_pos h]; simp only [h, true_and, and_self]; with_unfolding_all rfl
    · simp only [if_neg h, h, false_and]; with_unfolding_all rfl
/-- what dict(..) is told of -/
def dicO (Q : List D → List D → Prop) : D → Prop
  | .lst ps => OO (pairsOf ps) fun qs => OO (dputsA qs) fun r => Q r.1 r.2
  | .dct ks vs => atomsB ks = true ∧ Q ks vs
  | _ => False
theorem b_dictT : Ok (biM (.dict true) [x] g) Q E = dicO (fun ks vs => Q (.dct ks vs) g) (rd g x) := by
  simp only [biM, dictM]
  cases rd g x <;> first | with_unfolding_all rfl | skip
  · rename_i ps
    simp only [dicO]
    cases pairsOf ps with
    | none => with_unfolding_all rfl
    | some qs =>
      simp only [OO_some]
      cases dputsA qs <;> with_unfolding_all rfl
  · rename_i ks vs
    cases h : atomsB ks
    · simp only [dicO, h, Bool.false_eq_true, if_false, false_and]; with_unfolding_all rfl
    · simp only [dicO, h, if_true, true_and]; with_unfolding_all rfl
theorem b_dictF : Ok (biM (.dict false) [x] g) Q E = dicO (fun ks vs => Q (.ref g.length) (g ++ [.dct ks vs])) (rd g x) := by
  simp only [biM, dictM]
  cases rd g x <;> first | with_unfolding_all rfl | skip
  · rename_i ps
    simp only [dicO]
    cases pairsOf ps with
    | none => with_unfolding_all rfl
    | some qs =>
      simp only [OO_some]
      cases dputsA qs <;> with_unfolding_all rfl
  · rename_i ks vs
    cases h : atomsB ks
    · simp only [dicO, h, Bool.false_eq_true, if_false, false_and]; with_unfolding_all rfl
    · simp only [dicO, h, if_true, true_and]; with_unfolding_all rfl
theorem z_set : Ok (setItemM (.ref n) y d g) QU E = setO y d (fun o => QU () (g.set n o)) g[n]? := by
  simp only [setItemM]
  cases g[n]? with
  | none => with_unfolding_all rfl
  | some o =>
    cases o with
    | lst xs =>
      cases y <;> first | with_unfolding_all rfl | skip
      simp only [setO]
      cases ixN xs.length _ <;> with_unfolding_all rfl
    | dct ks vs =>
      simp only [setO]
      cases keyOf y with
      | none => with_unfolding_all rfl
      | some k =>
        by_cases h : ks.length < sizeLine ∧ okK ks k = true
        · simp only [if_pos h, OO]; simp only [h, true_and, and_self]; with_unfolding_all rfl
        · simp only [if_neg h, OO, h, false_and]; with_unfolding_all rfl
    | _ => with_unfolding_all rfl
theorem f_frz : Ok (frzM (.ref n) g) Q E = frzO (fun d => Q d (g.set n .gone)) g[n]? := by
  simp only [frzM]
  cases g[n]? with
  | none => with_unfolding_all rfl
  | some o => cases o <;> with_unfolding_all rfl
theorem d_disp {ps : List (D × D)} : Ok (setDctM g.length false ps (g ++ [.dct [] []])) Q E = OO (dmerge [] [] ps) fun r => Q (.ref g.length) (g ++ [.dct r.1 r.2]) := by
  have h1 : (g ++ [O.dct [] []])[g.length]? = some (.dct [] []) := by simp
  have h2 : ∀ o, (g ++ [O.dct [] []]).set g.length o = g ++ [o] := by simp
  simp only [setDctM, h1, h2]
  cases dmerge [] [] ps <;> with_unfolding_all rfl
theorem d_dispT {ps : List (D × D)} : Ok (setDctM g.length true ps (g ++ [.dct [] []])) Q E = OO (dmerge [] [] ps) fun r => Q (.dct r.1 r.2) (g ++ [.gone]) := by
  have h1 : (g ++ [O.dct [] []])[g.length]? = some (.dct [] []) := by simp
  have h2 : ∀ o, (g ++ [O.dct [] []]).set g.length o = g ++ [o] := by simp
  simp only [setDctM, h1, h2]
  cases dmerge [] [] ps <;> with_unfolding_all rfl
theorem q_last {o : O} : (g ++ [o])[g.length]? = some o := by simp
theorem q_set {o o' : O} : (g ++ [o]).set g.length o' = g ++ [o'] := by simp
theorem k_str {x : Str} : keyOf (.str x) = some (.a (.inr x)) := by with_unfolding_all rfl
theorem k_int : keyOf (.int i) = some (.a (.inl i)) := by with_unfolding_all rfl
theorem l_nil {k : TK} : dlook [] ys k = none := by with_unfolding_all rfl
theorem l_str {x y : Str} {v : D} : dlook (.str x :: xs) (v :: ys) (.a (.inr y)) = if x = y then some v else dlook xs ys (.a (.inr y)) := by
  simp only [dlook, keyOf, Option.some.injEq, TK.a.injEq, Sum.inr.injEq]
theorem l_int {v : D} : dlook (.int i :: xs) (v :: ys) (.a (.inl j)) = if i = j then some v else dlook xs ys (.a (.inl j)) := by
  simp only [dlook, keyOf, Option.some.injEq, TK.a.injEq, Sum.inl.injEq]
theorem w_nil {k : TK} {v : D} : dset [] ys k v = [] := by with_unfolding_all rfl
theorem w_str {x y : Str} {u v : D} : dset (.str x :: xs) (u :: ys) (.a (.inr y)) v = (if x = y then v else u) :: dset xs ys (.a (.inr y)) v := by
  simp only [dset, keyOf, Option.some.injEq, TK.a.injEq, Sum.inr.injEq]
theorem w_int {u v : D} : dset (.int i :: xs) (u :: ys) (.a (.inl j)) v = (if i = j then v else u) :: dset xs ys (.a (.inl j)) v := by
  simp only [dset, keyOf, Option.some.injEq, TK.a.injEq, Sum.inl.injEq]
end
/-- the size line kept shut: a literal there makes the unifier count -/
def Fits (n : Nat) : Prop := n ≤ sizeLine
theorem fits_le {n : Nat} : (n ≤ sizeLine) = Fits n := by with_unfolding_all rfl
theorem fits_lt {n : Nat} : (n < sizeLine) = Fits (n + 1) := by with_unfolding_all rfl
theorem fits_s {n : Nat} (h : n ≤ 4096) : Fits n = True := by
  unfold Fits
  rw [sizeLine_eq]
  simp only [eq_iff_iff, iff_true]
  omega
theorem fits {n : Nat} (h : n ≤ 4096) : Fits n := by rw [fits_s h]; trivial
end DL

set_option Elab.async false
set_option linter.all false
set_option maxRecDepth 100000
set_option maxHeartbeats 4000000
/-! the deep layer: comprehensions, likeness, heaps kept -/
namespace DL
open PySem PySem.Spec L2

/-! comprehensions -/
section
variable {cf : Cf} {Q : Unit → G → Prop} {E : Exn → G → Prop}
theorem body_lc {t : Tg} {elt : DL.E} {ifs : Es} {ρ : Env'} {d : D} {g : G} {Q : Option D → G → Prop} : Ok ((do
      let ρ1 ← asgT cf t d ρ
      let k ← evIfs cf ifs ρ1
      if k then do
        let y ← evE cf elt ρ1
        pure (some y)
      else pure none : M (Option D)) g) Q E = Ok (asgT cf t d ρ g) (fun ρ1 g => Ok (evIfs cf ifs ρ1 g) (fun k g => if k = true then Ok (evE cf elt ρ1 g) (fun y g => Q (some y) g) E else Q none g) E) E := by
  simp only [Ok_bindM]
  congr 1
  funext ρ1 g
  congr 1
  funext k g
  cases k
  · with_unfolding_all rfl
  · simp only [if_true, Ok_bindM, Ok_pure]
theorem lc_ok0 {ds : List D} {n : Nat} {body : D → M (Option D)} (Inv : Nat → List D → G → Prop)
    (step : ∀ i d xs g, ds[i]? = some d → g[n]? = some (.lst xs) → Inv i xs g → Ok (body d g) (fun o g' => g'[n]? = some (.lst xs) ∧ match o with
      | none => Inv (i + 1) xs g'
      | some y => Fits (xs.length + 1) ∧ Inv (i + 1) (xs ++ [y]) (g'.set n (.lst (xs ++ [y])))) Never)
    (fin : ∀ xs g, g[n]? = some (.lst xs) → Inv ds.length xs g → Q () g) : ∀ (k i : Nat) (xs : List D) (g : G), i + k = ds.length → g[n]? = some (.lst xs) → Inv i xs g → Ok (loopC (.fix ds) n body k i g) Q E := by
  intro k
  induction k with
  | zero =>
    intro i xs g hk hg hi
    have hi' : i = ds.length := by omega
    subst hi'
    simp only [loopC, It0.at, List.getElem?_eq_none (Nat.le_refl _)]
    show Ok (.ok () g) Q E
    rw [Ok_ok]
    exact fin xs g hg hi
  | succ k ih =>
    intro i xs g hk hg hi
    have hlt : i < ds.length := by omega
    have e : ds[i]? = some ds[i] := List.getElem?_eq_getElem hlt
    simp only [loopC, It0.at, e, Ok_bind, Ok_noEx]
    refine (step i _ xs g e hg hi).mono (fun o g' h => ?_) fun _ _ h => h.elim
    obtain ⟨hg', h⟩ := h
    cases o with
    | none => exact ih (i + 1) xs g' (by omega) hg' h
    | some y =>
      obtain ⟨hf, h⟩ := h
      have hl : xs.length < sizeLine := hf
      have ea : addTo n y g' = .ok () (g'.set n (.lst (xs ++ [y]))) := by
        simp only [addTo, hg']
        rw [if_pos hl]
      show Ok ((addTo n y g').bind _) Q E
      rw [Ok_bind, ea, Ok_ok]
      refine ih (i + 1) (xs ++ [y]) _ (by omega) ?_ h
      rw [List.getElem?_set_self]
      exact (List.getElem?_eq_some_iff.mp hg').1
/-- a comprehension: an invariant by the turn, of what has come and the heap -/
theorem lc_fix {ds : List D} {body : D → M (Option D)} {g : G} (Inv : Nat → List D → G → Prop) (h0 : Inv 0 [] (g ++ [.lst []]))
    (step : ∀ i d xs g', ds[i]? = some d → g'[g.length]? = some (.lst xs) → Inv i xs g' → Ok (body d g') (fun o g' => g'[g.length]? = some (.lst xs) ∧ match o with
      | none => Inv (i + 1) xs g'
      | some y => Fits (xs.length + 1) ∧ Inv (i + 1) (xs ++ [y]) (g'.set g.length (.lst (xs ++ [y])))) Never)
    (fin : ∀ xs g', g'[g.length]? = some (.lst xs) → Inv ds.length xs g' → Q () g') : Ok (loopC (.fix ds) g.length body ((It0.fix ds).len (g ++ [.lst []])) 0 (g ++ [.lst []])) Q E :=
  lc_ok0 Inv step fin _ 0 [] _ (by simp [It0.len]) (by simp) h0
theorem endT {Q : D → G → Prop} {n : Nat} {xs : List D} {g : G} (h : g[n]? = some (.lst xs)) : Ok (endL true n g) Q E = Q (.lst xs) (g.set n .gone) := by
  unfold endL
  rw [h]
  with_unfolding_all rfl
theorem endF {Q : D → G → Prop} {n : Nat} {g : G} : Ok (endL false n g) Q E = Q (.ref n) g := by with_unfolding_all rfl
/-- one that changes nothing -/
theorem lc_pure {ds : List D} {body : D → M (Option D)} {g : G} {Q : D → G → Prop} (f : D → Option D) (hf : Fits ds.length)
    (step : ∀ d xs (Q : Option D → G → Prop), d ∈ ds → Q (f d) (g ++ [.lst xs]) → Ok (body d (g ++ [.lst xs])) Q Never)
    (fin : Q (.lst (ds.filterMap f)) (g ++ [.gone])) : Ok (loopC (.fix ds) g.length body ((It0.fix ds).len (g ++ [.lst []])) 0 (g ++ [.lst []])) (fun _ g' => Ok (endL true g.length g') Q E) E := by
  refine lc_fix (fun i xs g' => g' = g ++ [.lst xs] ∧ xs = (ds.take i).filterMap f ∧ xs.length ≤ i) ⟨rfl, by simp, by simp⟩ ?_ ?_
  · rintro i d xs g' hd hg ⟨rfl, hx, hl⟩
    have hi : i < ds.length := (List.getElem?_eq_some_iff.mp hd).1
    have ht : ds.take (i + 1) = ds.take i ++ [d] := by
      rw [List.take_add_one, hd]; rfl
    refine step d xs _ (List.mem_of_getElem? hd) ⟨hg, ?_⟩
    cases e : f d with
    | none =>
      refine ⟨rfl, ?_, by omega⟩
      rw [ht, List.filterMap_append, ← hx]
      simp [List.filterMap_cons, e]
    | some y =>
      refine ⟨?_, by simp, ?_, by simp; omega⟩
      · have hs : ds.length ≤ sizeLine := hf
        show xs.length + 1 ≤ sizeLine
        omega
      · rw [ht, List.filterMap_append, ← hx]
        simp [List.filterMap_cons, e]
  · rintro xs g' hg ⟨rfl, hx, _⟩
    rw [endT hg]
    have : (g ++ [O.lst xs]).set g.length .gone = g ++ [.gone] := by simp
    rw [this, hx, List.take_length]
    exact fin
end

/-! likeness -/
section
variable {i j : Int} {x y : Str} {xs ys : List D} {a b : D} {p q : Bool}
theorem eo_int : eqO (.int i) (.int j) = some (i == j) := by unfold eqO; rfl
theorem eo_str : eqO (.str x) (.str y) = some (x == y) := by unfold eqO; rfl
theorem eo_bl : eqO (.bl p) (.bl q) = some (p == q) := by unfold eqO; rfl
theorem eo_tup : eqO (.tup xs) (.tup ys) = eqOs xs ys := by unfold eqO; rfl
theorem eo_is : eqO (.int i) (.str y) = some false := by unfold eqO; rfl
theorem eo_si : eqO (.str y) (.int i) = some false := by unfold eqO; rfl
theorem eo_ts : eqO (.tup xs) (.str y) = some false := by unfold eqO; rfl
theorem eo_st : eqO (.str y) (.tup xs) = some false := by unfold eqO; rfl
theorem eo_ti : eqO (.tup xs) (.int i) = some false := by unfold eqO; rfl
theorem eo_it : eqO (.int i) (.tup xs) = some false := by unfold eqO; rfl
theorem eo_nn : eqOs [] [] = some true := by unfold eqOs; rfl
theorem eo_nc : eqOs [] (b :: ys) = some false := by unfold eqOs; rfl
theorem eo_cn : eqOs (a :: xs) [] = some false := by unfold eqOs; rfl
def bothB : Option Bool → Option Bool → Option Bool
  | some a, some b => some (a && b)
  | _, _ => none
theorem bothB_some : bothB (some p) (some q) = some (p && q) := rfl
theorem eo_cc : eqOs (a :: xs) (b :: ys) = bothB (eqO a b) (eqOs xs ys) := by rw [eqOs]; cases eqO a b <;> cases eqOs xs ys <;> rfl
theorem e_tup (h : min (dep (.tup xs)) (dep (.tup ys)) ≤ 60) : eqD (.tup xs) (.tup ys) = eqOs xs ys := by
  unfold eqD; rw [if_pos h, eo_tup]
theorem e_tupn : eqD (.tup xs) (.tup []) = some xs.isEmpty := by
  rw [e_tup (by simp only [dep, deps]; omega)]
  cases xs with
  | nil => rfl
  | cons => rfl
theorem e_lstn : eqD (.lst xs) (.lst []) = some xs.isEmpty := by
  unfold eqD
  rw [if_pos (by simp only [dep, deps]; omega)]
  cases xs with
  | nil => unfold eqO; rfl
  | cons => unfold eqO; rfl
theorem e_is : eqD (.int i) (.str y) = some false := by unfold eqD; rw [if_pos (by simp [dep]), eo_is]
theorem e_si : eqD (.str y) (.int i) = some false := by unfold eqD; rw [if_pos (by simp [dep]), eo_si]
end

/-! heaps: what stands stays, but for some -/
def Keep (ms : List Nat) (g g' : G) : Prop := g.length ≤ g'.length ∧ ∀ n, n < g.length → n ∉ ms → g'[n]? = g[n]?
theorem Keep.rfl' {ms : List Nat} {g : G} : Keep ms g g := ⟨Nat.le_refl _, fun _ _ _ => rfl⟩
theorem Keep.trans {ms : List Nat} {a b c : G} (h : Keep ms a b) (k : Keep ms b c) : Keep ms a c :=
  ⟨Nat.le_trans h.1 k.1, fun n hn hm => (k.2 n (by have := h.1; omega) hm).trans (h.2 n hn hm)⟩
theorem Keep.mono {ms ms' : List Nat} {a b : G} (h : Keep ms a b) (k : ∀ n, n ∈ ms → n ∈ ms') : Keep ms' a b :=
  ⟨h.1, fun n hn hm => h.2 n hn fun z => hm (k n z)⟩
theorem Keep.of_nil {ms : List Nat} {a b : G} (h : Keep [] a b) : Keep ms a b := h.mono fun _ z => by cases z
theorem Keep.app {ms : List Nat} {a : G} {o : List O} : Keep ms a (a ++ o) :=
  ⟨by simp, fun n hn _ => by rw [List.getElem?_append_left hn]⟩
theorem Keep.set {m : Nat} {a : G} {o : O} : Keep [m] a (a.set m o) :=
  ⟨by simp, fun n hn hm => by
    rw [List.getElem?_set_ne]
    intro z
    exact hm (by simp [z])⟩
theorem Keep.setIn {ms : List Nat} {m : Nat} {a b : G} {o : O} (h : Keep ms a b) (hm : m ∈ ms ∨ a.length ≤ m) : Keep ms a (b.set m o) :=
  ⟨by simp [h.1], fun n hn hx => by
    rw [List.getElem?_set_ne, h.2 n hn hx]
    rintro rfl
    rcases hm with z | z
    · exact hx z
    · omega⟩
theorem Keep.appIn {ms : List Nat} {a b : G} {o : List O} (h : Keep ms a b) : Keep ms a (b ++ o) := h.trans .app
theorem Keep.at {ms : List Nat} {a b : G} {n : Nat} {o : O} (h : Keep ms a b) (e : a[n]? = some o) (hm : n ∉ ms) : b[n]? = some o := by
  rw [h.2 n (List.getElem?_eq_some_iff.mp e).1 hm, e]

/-! drawn numbers -/
def Dr (m C : Nat) (g : G) : Prop := ∃ a b c : Int, g[m]? = some (.lst [.int a, .int b, .int c]) ∧ 0 ≤ a ∧ 0 ≤ b ∧ b < 2 ^ 31 ∧ 0 ≤ c ∧ c ≤ C
theorem Dr.lt {m C : Nat} {g : G} (h : Dr m C g) : m < g.length := by
  obtain ⟨_, _, _, e, _⟩ := h
  exact (List.getElem?_eq_some_iff.mp e).1
theorem Dr.keep {m C : Nat} {ms : List Nat} {g g' : G} (h : Dr m C g) (k : Keep ms g g') (hm : m ∉ ms) : Dr m C g' := by
  obtain ⟨a, b, c, e, r⟩ := h
  exact ⟨a, b, c, k.at e hm, r⟩
theorem Dr.app {m C : Nat} {g : G} {o : List O} (h : Dr m C g) : Dr m C (g ++ o) := h.keep (ms := []) .app (by simp)
theorem Dr.set {m n C : Nat} {g : G} {o : O} (h : Dr m C g) (hn : n ≠ m) : Dr m C (g.set n o) := h.keep (ms := [n]) .set (by simp; omega)
theorem Dr.mono {m C C' : Nat} {g : G} (h : Dr m C g) (k : C ≤ C') : Dr m C' g := by
  obtain ⟨a, b, c, e, h1, h2, h3, h4, h5⟩ := h
  exact ⟨a, b, c, e, h1, h2, h3, h4, by omega⟩
theorem set_self {m : Nat} {g : G} {o o' : O} (h : g[m]? = some o) : (g.set m o')[m]? = some o' := by
  rw [List.getElem?_set_self]
  exact (List.getElem?_eq_some_iff.mp h).1
theorem bound_draw {b c : Int} (h2 : 0 ≤ b) (h3 : b < 2 ^ 31) (h4 : 0 ≤ c) (h5 : c ≤ 1048576) : (b * (2 * c + 1) + 7919 * c * c + 11).natAbs < 2 ^ 64 := by
  have e1 : b * (2 * c + 1) ≤ 2147483648 * 2097153 := Int.mul_le_mul (by omega) (by omega) (by omega) (by omega)
  have e0 : 0 ≤ b * (2 * c + 1) := Int.mul_nonneg h2 (by omega)
  have e2 : 7919 * c * c ≤ (7919 * 1048576) * 1048576 := Int.mul_le_mul (by omega) h5 h4 (by omega)
  have e3 : 0 ≤ 7919 * c * c := Int.mul_nonneg (by omega) h4
  omega
theorem bound_seed {c k : Int} (h : 0 ≤ k) (h2 : k ≤ 1000) : (c % 2147483647 * 48271 + 104729 * k + 7).natAbs < 2 ^ 64 := by omega
theorem mulOk_l {i j : Int} (h : i.natAbs < 2 ^ 64) : mulOk i j = True := by
  simp only [eq_iff_iff, iff_true]
  exact .inl h
theorem mulOk_r {i j : Int} (h : j.natAbs < 2 ^ 64) : mulOk i j = True := by
  simp only [eq_iff_iff, iff_true]
  exact .inr (.inl h)
theorem divOk_t {j : Int} (h : 0 < j) (h2 : j < 2 ^ 64) : divOk j = True := by
  simp only [eq_iff_iff, iff_true]
  exact divOk_of h h2
theorem at_some {xs : List D} {i : Int} (h : 0 ≤ i) (h2 : i < xs.length) : ∃ d, atI xs i = some d ∧ d ∈ xs := by
  obtain ⟨n, rfl⟩ := Int.eq_ofNat_of_zero_le h
  have hn : n < xs.length := by omega
  exact ⟨xs[n], atI_nat (List.getElem?_eq_getElem hn), List.getElem_mem hn⟩
section
variable {x y z d : D} {r : List D}
theorem at0 : atI (x :: r) 0 = some x := atI_nat (j := 0) rfl
theorem at1 : atI (x :: y :: r) 1 = some y := atI_nat (j := 1) rfl
theorem at2 : atI (x :: y :: z :: r) 2 = some z := atI_nat (j := 2) rfl
theorem is0 {k : Nat} : ixN (k + 1) 0 = some 0 := by unfold ixN; simp
theorem is2 : ixN 3 2 = some 2 := rfl
theorem is1 : ixN 3 1 = some 1 := rfl
theorem divP11 : divOk 11 = True := divOk_t (by decide) (by decide)
theorem pos_mod : ((0 : Int) < 2147483647) = True := by decide
end
theorem cut_take {xs : List D} {i : Int} (h : 0 ≤ i) : cutL xs none (some i) = xs.take i.toNat := by
  have e : HT.sIx xs.length xs.length (some i) = min i.toNat xs.length := by
    simp only [HT.sIx, if_neg (show ¬ i < 0 by omega)]
  have e0 : HT.sIx xs.length 0 none = 0 := rfl
  unfold cutL
  rw [e, e0, List.drop_zero, Nat.sub_zero]
  by_cases hl : i.toNat ≤ xs.length
  · rw [Nat.min_eq_left hl]
  · rw [Nat.min_eq_right (by omega), List.take_length, List.take_of_length_le (by omega)]
theorem cut_drop {xs : List D} {i : Int} (h : 0 ≤ i) : cutL xs (some i) none = xs.drop i.toNat := by
  have e : HT.sIx xs.length 0 (some i) = min i.toNat xs.length := by
    simp only [HT.sIx, if_neg (show ¬ i < 0 by omega)]
  have e0 : HT.sIx xs.length xs.length none = xs.length := rfl
  unfold cutL
  rw [e, e0]
  by_cases hl : i.toNat ≤ xs.length
  · rw [Nat.min_eq_left hl, List.take_of_length_le (by simp)]
  · rw [Nat.min_eq_right (by omega), List.drop_eq_nil_of_le (Nat.le_refl _), List.drop_eq_nil_of_le (by omega), List.take_nil]
theorem rng0 {n : Nat} : rngD 0 (n : Int) = (List.range n).map fun i => .int (i : Nat) := by
  unfold rngD
  simp
end DL

set_option Elab.async false
set_option linter.all false
set_option maxRecDepth 100000
set_option maxHeartbeats 4000000
/-! the deep layer: texts, lists of truths, membership -/
namespace DL
open PySem PySem.Spec L2

theorem len_app (x y : Str) : (x ++ y).length = x.length + y.length := by
  show (x.append y).cps.size = _
  simp [Str.append, Str.length]
theorem cut_len (x : Str) (lo hi : Option Int) : (cutStr x lo hi).length ≤ x.length := by
  unfold cutStr Str.length
  simp
  omega
theorem join_len0 (ys : List Str) : (Txt.join "" ys).length = (ys.map (·.length)).sum := by
  unfold Txt.join Builtin.Str.glued
  have key : ∀ (ys : List Str) (a : Array Nat), (List.foldl (fun acc p => acc ++ (Str.ofString "").cps ++ p.cps) a ys).size = a.size + (ys.map (·.length)).sum := by
    intro ys
    induction ys with
    | nil => intro a; simp
    | cons y ys ih =>
      intro a
      rw [List.foldl_cons, ih]
      have e : ((Str.ofString "").cps).size = 0 := rfl
      simp only [Array.size_append, e, List.map_cons, List.sum_cons]
      unfold Str.length
      omega
  cases ys with
  | nil => rfl
  | cons y ys =>
    simp only [List.headD_cons, List.drop_one, List.tail_cons]
    unfold Str.length at key ⊢
    rw [key]
    rfl
theorem join_len_le (x : Str) (ys : List Str) : (Txt.join x ys).length ≤ (ys.map (·.length)).sum + ys.length * x.length := by
  unfold Txt.join Builtin.Str.glued
  have key : ∀ (ys : List Str) (a : Array Nat), (List.foldl (fun acc p => acc ++ x.cps ++ p.cps) a ys).size = a.size + (ys.map (·.length)).sum + ys.length * x.length := by
    intro ys
    induction ys with
    | nil => intro a; simp
    | cons y ys ih =>
      intro a
      rw [List.foldl_cons, ih]
      simp only [Array.size_append, List.map_cons, List.sum_cons, List.length_cons, Nat.succ_mul, Nat.add_mul]
      unfold Str.length
      omega
  cases ys with
  | nil => simp [Str.length, Str.empty]
  | cons y ys =>
    simp only [List.headD_cons, List.drop_one, List.tail_cons]
    unfold Str.length at key ⊢
    rw [key]
    simp only [List.map_cons, List.sum_cons, List.length_cons, Nat.add_mul]
    omega
section
variable {Q : D → Prop} {QB : Bool → Prop} {x y : Str} {xs ys : List D} {a b d : D} {i : Int} {kd : Str → Str → Option D} {lo hi : Option Int} {p q : Bool}
theorem i_str : OO (ixD kd (.str x) (.int i)) Q = (Fits x.length ∧ OO (atI x.cps.toList i) fun c => Q (.str ⟨#[c]⟩)) := by
  unfold ixD Fits
  by_cases h : x.length ≤ sizeLine
  · simp only [h, if_true, true_and, OO_map]
  · simp only [h, if_false, false_and, OO_none]
theorem s_str : OO (slD (.str x) lo hi) Q = (Fits x.length ∧ Q (.str (cutStr x lo hi))) := by
  unfold slD Fits
  by_cases h : x.length ≤ sizeLine
  · simp only [h, if_true, true_and, OO_some]
  · simp only [h, if_false, false_and, OO_none]
theorem t_str : OO (truD (.str x)) QB = (Fits x.length ∧ QB ((x.length : Int) != 0)) := by
  unfold truD Fits
  by_cases h : x.length ≤ sizeLine
  · simp only [h, if_true, true_and, OO_some]
  · simp only [h, if_false, false_and, OO_none]
theorem in_str : inD (.str x) (.str y) = some (strIn x y) := by unfold inD; rfl
theorem in_tup : inD a (.tup ys) = inOs a ys := by unfold inD; rfl
theorem in_lst : inD a (.lst ys) = inOs a ys := by unfold inD; rfl
theorem in_dK {k : TK} (h : keyOf a = some k) : OO (inD a (.dct xs ys)) QB = (okK xs k = true ∧ QB (dlook xs ys k).isSome) := by
  have e : inD a (.dct xs ys) = if okK xs k = true then some (dlook xs ys k).isSome else none := by
    unfold inD; rw [h]
  rw [e]
  cases h : okK xs k
  · simp only [h, Bool.false_eq_true, if_false, false_and, OO_none]
  · simp only [h, if_true, true_and, OO_some]
theorem in_dS : OO (inD (.str x) (.dct xs ys)) QB = (atomsB xs = true ∧ QB (dlook xs ys (.a (.inr x))).isSome) := in_dK (k := .a (.inr x)) (by with_unfolding_all rfl)
theorem in_dI : OO (inD (.int i) (.dct xs ys)) QB = (atomsB xs = true ∧ QB (dlook xs ys (.a (.inl i))).isSome) := in_dK (k := .a (.inl i)) (by with_unfolding_all rfl)
def orB : Option Bool → Option Bool → Option Bool
  | some a, some b => some (a || b)
  | _, _ => none
theorem orB_some : orB (some p) (some q) = some (p || q) := rfl
theorem in_nil : inOs a [] = some false := rfl
theorem in_cons : inOs a (b :: ys) = orB (eqD b a) (inOs a ys) := by
  rw [inOs]
  cases eqD b a <;> cases inOs a ys <;> rfl
theorem in_c1 {c : Nat} : strIn ⟨#[c]⟩ y = decide (c ∈ y.cps.toList) := by
  unfold strIn
  rfl
theorem bools_map {α : Type} {l : List α} {f : α → Bool} : boolsOf (l.map fun a => .bl (f a)) = some (l.map f) := by
  induction l with
  | nil => rfl
  | cons a l ih => simp only [List.map_cons, boolsOf, ih, Option.map_some]
theorem ints_map {α : Type} {l : List α} {f : α → Int} : intsOf (l.map fun a => .int (f a)) = some (l.map f) := by
  induction l with
  | nil => rfl
  | cons a l ih => simp only [List.map_cons, intsOf, ih, Option.map_some]
theorem strs_map {α : Type} {l : List α} {f : α → Str} : strsOf (l.map fun a => .str (f a)) = some (l.map f) := by
  induction l with
  | nil => rfl
  | cons a l ih => simp only [List.map_cons, strsOf, ih, Option.map_some]
end
theorem fm_some {α β : Type} {f : α → Option β} {h : α → β} : ∀ {l : List α}, (∀ a ∈ l, f a = some (h a)) → l.filterMap f = l.map h
  | [], _ => rfl
  | a :: l, k => by
    rw [List.filterMap_cons, k a (List.mem_cons_self ..), fm_some fun x hx => k x (List.mem_cons_of_mem _ hx)]
    rfl
theorem fm_none {α β : Type} {f : α → Option β} : ∀ {l : List α}, (∀ a ∈ l, f a = none) → l.filterMap f = []
  | [], _ => rfl
  | a :: l, k => by
    rw [List.filterMap_cons, k a (List.mem_cons_self ..), fm_none fun x hx => k x (List.mem_cons_of_mem _ hx)]
theorem fm_map {α β γ : Type} {f : β → Option γ} {h : α → β} {l : List α} : (l.map h).filterMap f = l.filterMap fun a => f (h a) := by
  rw [List.filterMap_map]; rfl
theorem enum_get {xs : List D} {i : Nat} {d : D} (h : (enumD xs)[i]? = some d) : ∃ y, xs[i]? = some y ∧ d = .tup [.int (i : Nat), y] := by
  have hi := (List.getElem?_eq_some_iff.mp h).1
  unfold enumD at h hi
  simp only [List.length_map, List.length_range] at hi
  rw [List.getElem?_map, List.getElem?_range hi] at h
  simp only [Option.map_some, Option.some.injEq] at h
  exact ⟨xs[i], List.getElem?_eq_getElem hi, by rw [← h, List.getD_eq_getElem?_getD, List.getElem?_eq_getElem hi]; rfl⟩
theorem mem_cut {xs : List D} {lo hi : Option Int} {d : D} (h : d ∈ cutL xs lo hi) : d ∈ xs :=
  List.mem_of_mem_drop (List.mem_of_mem_take h)
theorem cut_le {xs : List D} {lo hi : Option Int} : (cutL xs lo hi).length ≤ xs.length := by
  unfold cutL
  rw [List.length_take, List.length_drop]
  omega
theorem cells {ns : List Int} {lo hi : Option Int} {c0 : Int} {i : Nat} {d : D} (hl : ns.length ≤ 63) (hd : (enumD (cutL (ns.map D.int ++ [.int c0]) lo hi))[i]? = some d) : ∃ c : Int, d = .tup [.int (i : Nat), .int c] ∧ i ≤ 63 := by
  obtain ⟨y, hy, rfl⟩ := enum_get hd
  have hm := mem_cut (List.mem_of_getElem? hy)
  have hi : i ≤ 63 := by
    have h1 := (List.getElem?_eq_some_iff.mp hy).1
    have h2 : (cutL (ns.map D.int ++ [.int c0]) lo hi).length ≤ _ := cut_le
    simp only [List.length_append, List.length_map, List.length_cons, List.length_nil] at h2
    omega
  simp only [List.mem_append, List.mem_map, List.mem_singleton] at hm
  rcases hm with ⟨c, _, h⟩ | h
  · exact ⟨c, by rw [h], hi⟩
  · exact ⟨c0, by rw [h], hi⟩
theorem log_ok {i : Int} (h : i.natAbs < 2 ^ 64) : i.natAbs.log2 < 1920 := by
  by_cases h0 : i.natAbs = 0
  · rw [h0]; decide
  · have := (Nat.log2_lt h0).mpr h
    omega
theorem e_lst {xs ys : List D} (h : min (dep (.lst xs)) (dep (.lst ys)) ≤ 60) : eqD (.lst xs) (.lst ys) = if xs.length = ys.length then eqOs xs ys else some false := by
  unfold eqD; rw [if_pos h]; unfold eqO; rfl
/-- of a kind that isinstance tells -/
def pl : D → Bool
  | .non | .bl _ | .int _ | .str _ | .tup _ | .lst _ | .dct _ _ => true
  | _ => false
/-- one that changes nothing that stands -/
theorem lc_keep {ds : List D} {body : D → M (Option D)} {g : G} {Q : D → G → Prop} {E : Exn → G → Prop} (f : D → Option D) (hf : Fits ds.length)
    (step : ∀ d g' (Q : Option D → G → Prop), d ∈ ds → Keep [] g g' → (∀ g'', Keep [] g' g'' → Q (f d) g'') → Ok (body d g') Q Never)
    (fin : ∀ g', Keep [] g g' → Q (.lst (ds.filterMap f)) g') : Ok (loopC (.fix ds) g.length body ((It0.fix ds).len (g ++ [.lst []])) 0 (g ++ [.lst []])) (fun _ g' => Ok (endL true g.length g') Q E) E := by
  refine lc_fix (fun i xs g' => Keep [] g g' ∧ xs = (ds.take i).filterMap f ∧ xs.length ≤ i) ⟨.app, by simp, by simp⟩ ?_ ?_
  · rintro i d xs g' hd hg ⟨hK, hx, hl⟩
    have hi : i < ds.length := (List.getElem?_eq_some_iff.mp hd).1
    have ht : ds.take (i + 1) = ds.take i ++ [d] := by
      rw [List.take_add_one, hd]; rfl
    refine step d g' _ (List.mem_of_getElem? hd) hK fun g'' hK2 => ⟨hK2.at hg (by simp), ?_⟩
    cases e : f d with
    | none =>
      refine ⟨hK.trans hK2, ?_, by omega⟩
      rw [ht, List.filterMap_append, ← hx]
      simp [List.filterMap_cons, e]
    | some y =>
      refine ⟨?_, (hK.trans hK2).setIn (.inr (Nat.le_refl _)), ?_, by simp; omega⟩
      · have hs : ds.length ≤ sizeLine := hf
        show xs.length + 1 ≤ sizeLine
        omega
      · rw [ht, List.filterMap_append, ← hx]
        simp [List.filterMap_cons, e]
  · rintro xs g' hg ⟨hK, hx, _⟩
    rw [endT hg, hx, List.take_length]
    exact fin _ (hK.setIn (.inr (Nat.le_refl _)))
end DL

set_option Elab.async false
set_option linter.all false
set_option maxRecDepth 100000
set_option maxHeartbeats 4000000
/-! the value layer: wishes over values, no heap -/
namespace DL
open PySem PySem.Spec L2

/-- a slot: nothing, a value, or a thing of the def's own that it still changes -/
inductive EV where
  | nil | val (d : D) | lst (xs : List D) | dct (ks vs : List D) | obj (C : Str) (ns : List Str) (vs : List D)
  deriving Inhabited
abbrev VE := List EV
def slV (ρ : VE) (i : Nat) : EV := ρ.getD i .nil
def EV.o : EV → Option O
  | .lst xs => some (.lst xs)
  | .dct ks vs => some (.dct ks vs)
  | .obj C ns vs => some (.ins C ns vs)
  | _ => none
/-- as it may be read -/
def EV.d : EV → Option D
  | .val d => some d
  | .lst xs => some (.lst xs)
  | .dct ks vs => some (.dct ks vs)
  | .obj C ns vs => some (.obj C ns vs)
  | .nil => none
def EV.v : EV → Option D
  | .val d => some d
  | _ => none
/-- a mark: what it stands behind is left alone until its time comes -/
inductive Fx {α : Type} (a : α) : Type where
  | mk
def OOd {α : Type} (o : Option α) (Q : α → Prop) (t : Fx Q := .mk) : Prop := OO o Q
abbrev PD := D → Nat → Prop
abbrev PX := Exn → Nat → Prop

/-- the draw: where it stands, how many numbers were mixed -/
def DX : Option Nat → Nat → G → Prop
  | none, _, _ => True
  | some m, c, g => Dr m c g
def dL : Option Nat → List Nat
  | none => []
  | some m => [m]
/-- what a call comes to -/
def VC (T : Tb) (n : Nat) (dm : Option Nat) (f : Str) (ds : List D) (c : Nat) (Q : PD) (X : PX) : Prop :=
  ∀ g, DX dm c g → Ok ((cfN T n).call f ds g) (fun d g' => ∃ c', DX dm c' g' ∧ Keep (dL dm) g g' ∧ Q d c') (fun e g' => ∃ c', DX dm c' g' ∧ Keep (dL dm) g g' ∧ X e c')
/-- a call that comes to one value alone, whatever the heap -/
def PR (T : Tb) (n : Nat) (f : Str) (ds : List D) (d : D) : Prop := ∀ g, Ok ((cfN T n).call f ds g) (fun d' g' => Keep [] g g' ∧ d' = d) Never
def PRX (T : Tb) (n : Nat) (f : Str) (ds : List D) (e : Exn) : Prop := ∀ g, Ok ((cfN T n).call f ds g) (fun _ _ => False) (fun e' g' => Keep [] g g' ∧ e' = e)
@[irreducible] def PCall (T : Tb) (n : Nat) (f : Str) (ds : List D) (Q : D → Prop) (X : Exn → Prop) (t : Fx (Q, X) := .mk) : Prop := (∃ d, PR T n f ds d ∧ Q d) ∨ ∃ e, PRX T n f ds e ∧ X e
/-- a new object -/
def mkO (T : Tb) (n : Nat) (key C : Str) (ds : List D) (g : G) (Q : D → G → Prop) (E : Exn → G → Prop) : Prop := Ok ((cfN T n).call key (.ref g.length :: ds) (g ++ [.ins C [] []])) (fun r g' => match r with
  | .non => Ok (endO true g.length g') Q E
  | _ => False) E
def PM (T : Tb) (n : Nat) (key C : Str) (ds : List D) (d : D) : Prop := ∀ g, mkO T n key C ds g (fun d' g' => Keep [] g g' ∧ d' = d) Never
def PMX (T : Tb) (n : Nat) (key C : Str) (ds : List D) (e : Exn) : Prop := ∀ g, mkO T n key C ds g (fun _ _ => False) (fun e' g' => Keep [] g g' ∧ e' = e)
@[irreducible] def PMk (T : Tb) (n : Nat) (key C : Str) (ds : List D) (Q : D → Prop) (X : Exn → Prop) (t : Fx (Q, X) := .mk) : Prop := (∃ d, PM T n key C ds d ∧ Q d) ∨ ∃ e, PMX T n key C ds e ∧ X e
def VCd (T : Tb) (n : Nat) (dm : Option Nat) (f : Str) (ds : List D) (c : Nat) (Q : PD) (X : PX) (t : Fx (Q, X) := .mk) : Prop := VC T n dm f ds c Q X
/-- how a def's calls are taken: as one value, as they go, by a wish told beforehand -/
inductive Knd where
  | pure | goes | spec (r : Nat) (w : List D → Nat → PD → PX → Prop)
abbrev Sps := Str → Knd
def VCall (T : Tb) (n : Nat) (dm : Option Nat) (S : Sps) (f : Str) (ds : List D) (c : Nat) (Q : PD) (X : PX) : Prop := match S f with
  | .pure => PCall T n f ds (fun d => Q d c) fun e => X e c
  | .goes => VCd T n dm f ds c Q X
  | .spec r w => r ≤ n ∧ w ds c Q X

def clsV : D → Option (Str × List Str)
  | .obj C ns _ => some (C, ns)
  | _ => none
def iscV (isi isx : Str → Str → Option Bool) (cs : List Str) : D → Option Bool
  | .exc C _ _ => isAny isx C cs
  | .obj C _ _ => isAny isi C cs
  | _ => none
def fldV (T : Tb) (f : Str) : D → (D → Prop) → Prop
  | .obj C ns vs, Q => T.fld C f = true ∧ OOd (flook ns vs f) Q
  | _, _ => False
def intV : D → (Int → Prop) → Prop
  | .int i, Q => Q i
  | _, _ => False
def biV : Bi → List D → (D → Prop) → Prop
  | .len, [x], Q => lenO Q x
  | .tuple, [x], Q => seqO (fun xs => Q (.tup xs)) x
  | .list _, [x], Q => lsdO (fun xs => Q (.lst xs)) x
  | .min2, [.int i, .int j], Q => Q (.int (if j < i then j else i))
  | .max2, [.int i, .int j], Q => Q (.int (if j > i then j else i))
  | .abs, [.int i], Q => Q (.int (if i < 0 then -i else i))
  | .all, [x], Q => lstO (fun xs => OOd (boolsOf xs) fun bs => Q (.bl (bs.all id))) x
  | .any, [x], Q => lstO (fun xs => OOd (boolsOf xs) fun bs => Q (.bl (bs.any id))) x
  | .sum, [x], Q => lstO (fun xs => OOd (intsOf xs) fun bs => Q (.int bs.sum)) x
  | .sortI _, [x], Q => lstO (fun xs => OOd (intsOf xs) fun bs => bs.length < 64 ∧ Q (.lst ((sortI bs).map .int))) x
  | .strI, [.int i], Q => i.natAbs.log2 < 1920 ∧ Q (.str (toString i))
  | .dict _, [x], Q => dicO (fun ks vs => Q (.dct ks vs)) x
  | _, _, _ => False
def mtV : Mt → D → List D → (D → Prop) → Prop
  | .get, .dct ks vs, [k], Q => OOd (keyOf k) fun k => okK ks k = true ∧ Q ((dlook ks vs k).getD .non)
  | .get, .dct ks vs, [k, y], Q => OOd (keyOf k) fun k => okK ks k = true ∧ Q ((dlook ks vs k).getD y)
  | .join, .str a, [.lst xs], Q => OOd (strsOf xs) fun ys => (ys.map (·.length)).sum + ys.length * a.length ≤ 16777216 ∧ Q (.str (Txt.join a ys))
  | .split true, .str a, [.str b], Q => ((b.length == 0) = false ∧ a.length + 2 ≤ sizeLine) ∧ Q (.lst ((Txt.split a b).map .str))
  | .upper, .str a, [], Q => a.length ≤ 5592405 ∧ Q (.str (Txt.upper a))
  | .count, .lst xs, [.bl b], Q => OOd (boolsOf xs) fun bs => Q (.int (bs.filter (· == b)).length)
  | _, _, _, _ => False
/-- what is gone through -/
def itV : D → (List D → Prop) → Prop
  | .tup ds, Q => Q ds
  | .lst ds, Q => Q ds
  | .str x, Q => Q (signsD x)
  | .dct ks _, Q => atomsB ks = true ∧ Q ks
  | _, _ => False
def wipeV (ρ : VE) : List Nat → VE
  | [] => ρ
  | v :: vs => (wipeV ρ vs).set v .nil
/-- a comprehension's items -/
def wLC (body : D → Nat → (Option D → Nat → Prop) → Prop) : List D → List D → Nat → (List D → Nat → Prop) → Prop
  | [], xs, c, K => K xs c
  | d :: ds, xs, c, K => body d c fun o c => match o with
    | none => wLC body ds xs c K
    | some y => wLC body ds (xs ++ [y]) c K
def wLCd (body : D → Nat → (Option D → Nat → Prop) → Prop) (ds xs : List D) (c : Nat) (K : List D → Nat → Prop) (t : Fx (body, K) := .mk) : Prop := wLC body ds xs c K
/-- does it make a thing of the def's own -/
def isMut : E → Bool
  | .lst false _ => true
  | .lc false _ _ _ _ _ => true
  | .dct false _ => true
  | .bi (.list false) _ => true
  | .bi (.dict false) _ => true
  | .bi (.sortI false) _ => true
  | _ => false
def mkEV : D → EV
  | .lst xs => .lst xs
  | .dct ks vs => .dct ks vs
  | d => .val d
def tabV (T : Tb) : D → (List (Str × D) → Prop) → Prop
  | .fn m, Q => OOd (T.kd.lookup m) Q
  | _, _ => False
def get1V (l : List (Str × D)) : List D → (D → Prop) → Prop
  | [.str z], Q => Q ((l.lookup z).getD .non)
  | _, _ => False
def slenV : D → (D → Prop) → Prop
  | .tup xs, Q => OOd (atomKs xs) fun ks => ks.length < 64 ∧ Q (.int (seenK [] ks).length)
  | _, _ => False
def revV : D → (D → Prop) → Prop
  | .tup xs, Q => Q (.tup xs.reverse)
  | _, _ => False
def seqV : D → (List D → Prop) → Prop
  | .lst xs, Q => Q xs
  | .tup xs, Q => Q xs
  | _, _ => False
def itemsV : D → (List D → List D → Prop) → Prop
  | .dct ks vs, Q => atomsB ks = true ∧ Q ks vs
  | _, _ => False
def zipV : D → D → (List D → Prop) → Prop
  | .lst xs, .lst ys, Q => Q (zipD xs ys)
  | .tup xs, .tup ys, Q => Q (zipD xs ys)
  | _, _, _ => False
def setV (ρ : VE) (i : Nat) (y d : D) (K : VE → Prop) : EV → Prop
  | .lst xs => intV y fun k => OOd (ixN xs.length k) fun j => K (ρ.set i (.lst (xs.set j d)))
  | .dct ks vs => OOd (keyOf y) fun k => (ks.length < sizeLine ∧ okK ks k = true) ∧ K (ρ.set i (.dct (dput ks vs k d).1 (dput ks vs k d).2))
  | _ => False
def setFV (T : Tb) (ρ : VE) (i : Nat) (f : Str) (d : D) (K : VE → Prop) : EV → Prop
  | .obj C ns vs => T.fld C f = true ∧ ns.length < 40 ∧ K (ρ.set i (.obj C (fput ns vs f d).1 (fput ns vs f d).2))
  | _ => False
def nonB : D → Bool
  | .non => true
  | _ => false
def bFz : Bi → Bool
  | .list fz => fz
  | .dict fz => fz
  | .sortI fz => fz
  | _ => true
mutual
@[irreducible] def wT : Tg → D → VE → (VE → Prop) → Prop
  | .v i, d, ρ, K => K (ρ.set i (.val d))
  | .tup ts, d, ρ, K => OOd (itemsD d) fun ds => ds.length = ts.len ∧ wTs ts ds ρ K
  | _, _, _, _ => False
@[irreducible] def wTs : Tgs → List D → VE → (VE → Prop) → Prop
  | .nil, [], ρ, K => K ρ
  | .cons t ts, d :: ds, ρ, K => wT t d ρ fun ρ => wTs ts ds ρ K
  | _, _, _, _ => False
end
mutual
@[irreducible] def wE (T : Tb) (n : Nat) (dm : Option Nat) (S : Sps) : E → Bool → VE → Nat → PD → PX → Prop
  | .v i, r, ρ, c, Q, X => OOd (if r then (slV ρ i).d else (slV ρ i).v) fun d => Q d c
  | .non, _, _, c, Q, _ => Q .non c
  | .bl b, _, _, c, Q, _ => Q (.bl b) c
  | .int i, _, _, c, Q, _ => Q (.int i) c
  | .str x, _, _, c, Q, _ => Q (.str x) c
  | .gl x, _, _, c, Q, _ => OOd (T.glob.lookup x) fun d => Q d c
  | .tup es, _, ρ, c, Q, X => wEs T n dm S es false ρ c (fun ds c => ds.length ≤ sizeLine ∧ Q (.tup ds) c) X
  | .lst fz es, r, ρ, c, Q, X => (fz || r) = true ∧ wEs T n dm S es false ρ c (fun ds c => ds.length ≤ sizeLine ∧ Q (.lst ds) c) X
  | .dct fz ps, r, ρ, c, Q, X => (fz || r) = true ∧ wPs T n dm S ps ρ c (fun ps c => ps.length ≤ 15 ∧ OOd (dmerge [] [] ps) fun r => Q (.dct r.1 r.2) c) X
  | .bin op a b, _, ρ, c, Q, X => wE T n dm S a true ρ c (fun x c => wE T n dm S b true ρ c (fun y c => OOd (op2 op x y) fun z => Q z c) X) X
  | .neg a, _, ρ, c, Q, X => wE T n dm S a false ρ c (fun x c => intV x fun i => Q (.int (-i)) c) X
  | .not a, _, ρ, c, Q, X => wE T n dm S a true ρ c (fun x c => OOd (truD x) fun b => Q (.bl (!b)) c) X
  | .and es, r, ρ, c, Q, X => wAnd T n dm S es r ρ c Q X
  | .or es, r, ρ, c, Q, X => wOr T n dm S es r ρ c Q X
  | .cmp op a b, _, ρ, c, Q, X => wE T n dm S a true ρ c (fun x c => wE T n dm S b true ρ c (fun y c => OOd (cmpD op x y) fun z => Q (.bl z) c) X) X
  | .cmp2 op op' a b e, _, ρ, c, Q, X => wE T n dm S a true ρ c (fun x c => wE T n dm S b true ρ c (fun y c => OOd (cmpD op x y) fun k => if k = true then wE T n dm S e true ρ c (fun z c => OOd (cmpD op' y z) fun k => Q (.bl k) c) X else Q (.bl false) c) X) X
  | .isn a, _, ρ, c, Q, X => wE T n dm S a true ρ c (fun x c => Q (.bl (nonB x)) c) X
  | .notn a, _, ρ, c, Q, X => wE T n dm S a true ρ c (fun x c => Q (.bl (!nonB x)) c) X
  | .ite e a b, r, ρ, c, Q, X => wE T n dm S e true ρ c (fun x c => OOd (truD x) fun k => if k = true then wE T n dm S a r ρ c Q X else wE T n dm S b r ρ c Q X) X
  | .ix a b, _, ρ, c, Q, X => wE T n dm S a true ρ c (fun x c => wE T n dm S b true ρ c (fun y c => OOd (ixD T.kdL x y) fun z => Q z c) X) X
  | .sl a lo hi, _, ρ, c, Q, X => wE T n dm S a true ρ c (fun x c => wPart T n dm S lo ρ c (fun l c => wPart T n dm S hi ρ c (fun h c => OOd (slD x l h) fun z => Q z c) X) X) X
  | .fld a f, _, ρ, c, Q, X => wE T n dm S a true ρ c (fun x c => fldV T f x fun z => Q z c) X
  | .call f es, _, ρ, c, Q, X => wEs T n dm S es false ρ c (fun ds c => VCall T n dm S f ds c Q X) X
  | .callv i es, _, ρ, c, Q, X => OOd (slV ρ i).v fun f => match f with
    | .fn x => okG T false x es.len = true ∧ wEs T n dm S es false ρ c (fun ds c => VCall T n dm S x ds c Q X) X
    | _ => False
  | .mk true C es, _, ρ, c, Q, X => wEs T n dm S es false ρ c (fun ds c => OOd (T.inits.lookup C) fun key => okG T true key (ds.length + 1) = true ∧ PMk T n key C ds (fun d => Q d c) fun e => X e c) X
  | .own m o es, _, ρ, c, Q, X => wE T n dm S o false ρ c (fun x c => OOd (clsV x) fun p => OOd (T.mets.lookup (p.1, m)) fun key => (!p.2.contains m && okG T true key (es.len + 1)) = true ∧
      wEs T n dm S es false ρ c (fun ds c => VCall T n dm S key (x :: ds) c Q X) X) X
  | .isc a cs _, _, ρ, c, Q, X => wE T n dm S a false ρ c (fun x c => OOd (iscV (fun C c => T.isi.lookup (C, c)) (fun C c => T.isx.lookup (C, c)) cs x) fun b => Q (.bl b) c) X
  | .slen a, _, ρ, c, Q, X => wE T n dm S a false ρ c (fun x c => slenV x fun d => Q d c) X
  | .bi b es, r, ρ, c, Q, X => (bFz b || r) = true ∧ wEs T n dm S es true ρ c (fun ds c => biV b ds fun d => Q d c) X
  | .mt m o es, _, ρ, c, Q, X => wE T n dm S o true ρ c (fun x c => mtOk m x = true ∧ wEs T n dm S es false ρ c (fun ds c => mtV m x ds fun d => Q d c) X) X
  | .isi a ts _, _, ρ, c, Q, X => wE T n dm S a true ρ c (fun x c => OOd (isiAny x ts) fun b => Q (.bl b) c) X
  | .lc fz own elt t it ifs, r, ρ, c, Q, X => (fz || r) = true ∧ wI T n dm S it ρ c (fun ds c => ds.length ≤ sizeLine ∧ wLCd (fun d c K => wT t d (wipeV ρ own) fun ρ1 => wIfs T n dm S ifs ρ1 c (fun k c => if k = true then wE T n dm S elt false ρ1 c (fun y c => K (some y) c) (fun _ _ => False) else K none c) (fun _ _ => False)) ds [] c fun xs c => Q (.lst xs) c) X
  | .kget o es, _, ρ, c, Q, X => wE T n dm S o false ρ c (fun x c => tabV T x fun l => wEs T n dm S es false ρ c (fun ds c => get1V l ds fun d => Q d c) X) X
  | .rev a, _, ρ, c, Q, X => wE T n dm S a false ρ c (fun x c => revV x fun d => Q d c) X
  | .deq a b, _, ρ, c, Q, X => wE T n dm S a true ρ c (fun x c => wE T n dm S b true ρ c (fun y c => OOd (deqD x y) fun z => Q (.bl z) c) X) X
  | _, _, _, _, _, _ => False
@[irreducible] def wEs (T : Tb) (n : Nat) (dm : Option Nat) (S : Sps) : Es → Bool → VE → Nat → (List D → Nat → Prop) → PX → Prop
  | .nil, _, _, c, Q, _ => Q [] c
  | .cons e es, r, ρ, c, Q, X => wE T n dm S e r ρ c (fun x c => wEs T n dm S es r ρ c (fun xs c => Q (x :: xs) c) X) X
@[irreducible] def wPs (T : Tb) (n : Nat) (dm : Option Nat) (S : Sps) : Ps → VE → Nat → (List (D × D) → Nat → Prop) → PX → Prop
  | .nil, _, c, Q, _ => Q [] c
  | .cons k v ps, ρ, c, Q, X => wE T n dm S k false ρ c (fun x c => wE T n dm S v false ρ c (fun y c => wPs T n dm S ps ρ c (fun xs c => Q ((x, y) :: xs) c) X) X) X
@[irreducible] def wPart (T : Tb) (n : Nat) (dm : Option Nat) (S : Sps) : Es → VE → Nat → (Option Int → Nat → Prop) → PX → Prop
  | .nil, _, c, Q, _ => Q none c
  | .cons e .nil, ρ, c, Q, X => wE T n dm S e false ρ c (fun x c => intV x fun i => Q (some i) c) X
  | _, _, _, _, _ => False
@[irreducible] def wAnd (T : Tb) (n : Nat) (dm : Option Nat) (S : Sps) : Es → Bool → VE → Nat → PD → PX → Prop
  | .nil, _, _, _, _, _ => False
  | .cons e .nil, r, ρ, c, Q, X => wE T n dm S e r ρ c Q X
  | .cons e es, r, ρ, c, Q, X => wE T n dm S e r ρ c (fun x c => OOd (truD x) fun b => if b = true then wAnd T n dm S es r ρ c Q X else Q x c) X
@[irreducible] def wOr (T : Tb) (n : Nat) (dm : Option Nat) (S : Sps) : Es → Bool → VE → Nat → PD → PX → Prop
  | .nil, _, _, _, _, _ => False
  | .cons e .nil, r, ρ, c, Q, X => wE T n dm S e r ρ c Q X
  | .cons e es, r, ρ, c, Q, X => wE T n dm S e r ρ c (fun x c => OOd (truD x) fun b => if b = true then Q x c else wOr T n dm S es r ρ c Q X) X
@[irreducible] def wIfs (T : Tb) (n : Nat) (dm : Option Nat) (S : Sps) : Es → VE → Nat → (Bool → Nat → Prop) → PX → Prop
  | .nil, _, c, Q, _ => Q true c
  | .cons e es, ρ, c, Q, X => wE T n dm S e true ρ c (fun x c => OOd (truD x) fun b => if b = true then wIfs T n dm S es ρ c Q X else Q false c) X
@[irreducible] def wI (T : Tb) (n : Nat) (dm : Option Nat) (S : Sps) : I → VE → Nat → (List D → Nat → Prop) → PX → Prop
  | .e a, ρ, c, Q, X => wE T n dm S a false ρ c (fun x c => itV x fun ds => Q ds c) X
  | .rng1 a, ρ, c, Q, X => wE T n dm S a false ρ c (fun x c => intV x fun j => (-(2 ^ 62) ≤ j ∧ j < 2 ^ 62) ∧ Q (rngD 0 j) c) X
  | .rng2 a b, ρ, c, Q, X => wE T n dm S a false ρ c (fun x c => wE T n dm S b false ρ c (fun y c => intV x fun i => intV y fun j => (-(2 ^ 62) ≤ i ∧ i < 2 ^ 62 ∧ -(2 ^ 62) ≤ j ∧ j < 2 ^ 62) ∧ Q (rngD i j) c) X) X
  | .enum a, ρ, c, Q, X => wE T n dm S a false ρ c (fun x c => seqV x fun xs => Q (enumD xs) c) X
  | .zip a b, ρ, c, Q, X => wE T n dm S a false ρ c (fun x c => wE T n dm S b false ρ c (fun y c => zipV x y fun xs => Q xs c) X) X
  | .items a, ρ, c, Q, X => wE T n dm S a false ρ c (fun x c => itemsV x fun ks vs => Q (zipD ks vs) c) X
  | .vals a, ρ, c, Q, X => wE T n dm S a false ρ c (fun x c => itemsV x fun ks vs => Q vs c) X
end
/-! statements -/
abbrev KS := Fl → VE → Nat → Prop
/-- a value, or a thing of the def's own -/
def evOf (e : E) (d : D) : EV := if isMut e then mkEV d else .val d
/-- several at once -/
def wPar (T : Tb) (n : Nat) (dm : Option Nat) (S : Sps) : Es → VE → Nat → (List EV → Nat → Prop) → PX → Prop
  | .nil, _, c, Q, _ => Q [] c
  | .cons e es, ρ, c, Q, X => wE T n dm S e (isMut e) ρ c (fun x c => wPar T n dm S es ρ c (fun xs c => Q (evOf e x :: xs) c) X) X
def parV : List Nat → List EV → VE → Option VE
  | [], [], ρ => some ρ
  | i :: is, d :: ds, ρ => parV is ds (ρ.set i d)
  | _, _, _ => none
def wFor (body : D → VE → Nat → KS → Prop) (K : KS) : List D → VE → Nat → Prop
  | [], ρ, c => K .nx ρ c
  | d :: ds, ρ, c => body d ρ c fun f ρ c => match f with
    | .nx => wFor body K ds ρ c
    | .ct => wFor body K ds ρ c
    | .bk => K .nx ρ c
    | f => K f ρ c
def wWhl (cond : VE → Nat → (Bool → Nat → Prop) → PX → Prop) (body : VE → Nat → KS → Prop) (K : KS) : Nat → VE → Nat → Prop
  | 0, _, _ => False
  | k + 1, ρ, c => cond ρ c (fun b c => if b = true then body ρ c (fun f ρ c => match f with
      | .nx => wWhl cond body K k ρ c
      | .ct => wWhl cond body K k ρ c
      | .bk => K .nx ρ c
      | f => K f ρ c) else K .nx ρ c) fun e c => K (.rs e) ρ c
def wForD (body : D → VE → Nat → KS → Prop) (K : KS) (ds : List D) (ρ : VE) (c : Nat) (t : Fx (body, K) := .mk) : Prop := wFor body K ds ρ c
def wWhlD (cond : VE → Nat → (Bool → Nat → Prop) → PX → Prop) (body : VE → Nat → KS → Prop) (K : KS) (k : Nat) (ρ : VE) (c : Nat) (t : Fx (cond, body, K) := .mk) : Prop := wWhl cond body K k ρ c
def isL : EV → Bool
  | .lst _ => true
  | _ => false
def hasO (ev : EV) : Bool := ev.o.isSome
def appV (ρ : VE) (i : Nat) (y : D) (K : VE → Prop) : EV → Prop
  | .lst xs => xs.length < sizeLine ∧ K (ρ.set i (.lst (xs ++ [y])))
  | _ => False
def extV (ρ : VE) (i : Nat) (y : D) (K : VE → Prop) : EV → Prop
  | .lst xs => lstO (fun ys => xs.length + ys.length ≤ sizeLine ∧ K (ρ.set i (.lst (xs ++ ys)))) y
  | _ => False
/-- an expression by itself -/
def wX (T : Tb) (n : Nat) (dm : Option Nat) (Z : Sps) (a : E) (ρ : VE) (c : Nat) (K : KS) : Prop := match a with
  | .mt .append (.v i) (.cons e .nil) => isL (slV ρ i) = true ∧ wE T n dm Z e false ρ c (fun y c => appV ρ i y (fun ρ => K .nx ρ c) (slV ρ i)) fun e c => K (.rs e) ρ c
  | .mt .extend (.v i) (.cons e .nil) => isL (slV ρ i) = true ∧ isMut e = true ∧ wE T n dm Z e true ρ c (fun y c => extV ρ i y (fun ρ => K .nx ρ c) (slV ρ i)) fun e c => K (.rs e) ρ c
  | a => wE T n dm Z a false ρ c (fun _ c => K .nx ρ c) fun e c => K (.rs e) ρ c
def wA (T : Tb) (n : Nat) (dm : Option Nat) (Z : Sps) (t : Tg) (a : E) (ρ : VE) (c : Nat) (K : KS) : Prop := match t with
  | .v i => wE T n dm Z a (isMut a) ρ c (fun d c => K .nx (ρ.set i (evOf a d)) c) fun e c => K (.rs e) ρ c
  | .ix (.v i) b => wE T n dm Z a false ρ c (fun d c => hasO (slV ρ i) = true ∧ wE T n dm Z b false ρ c (fun y c => setV ρ i y d (fun ρ => K .nx ρ c) (slV ρ i)) fun _ _ => False) fun e c => K (.rs e) ρ c
  | .fld (.v i) f => wE T n dm Z a false ρ c (fun d c => setFV T ρ i f d (fun ρ => K .nx ρ c) (slV ρ i)) fun e c => K (.rs e) ρ c
  | .tup ts => wE T n dm Z a false ρ c (fun d c => wT (.tup ts) d ρ fun ρ => K .nx ρ c) fun e c => K (.rs e) ρ c
  | _ => False
def frzV : EV → Option D
  | .lst xs => some (.lst xs)
  | .dct ks vs => some (.dct ks vs)
  | .obj C ns vs => some (.obj C ns vs)
  | _ => none
def raiV (T : Tb) (C : Str) (ds : List D) (K : Exn → Prop) : Prop := OOd (T.exk.lookup C) fun fs => match fs with
  | [] => (ds.length ≤ 1000 ∧ ds ≠ []) ∧ K ⟨C, [], []⟩
  | fs => ds.length = fs.length ∧ K ⟨C, fs.reverse, ds.reverse⟩
/-- nothing raised -/
def noRV (K : KS) : KS := fun f ρ c => match f with
  | .rs _ => False
  | f => K f ρ c
def thV (K : KS) (k : VE → Nat → Prop) : KS := fun f ρ c => match f with
  | .nx => k ρ c
  | f => K f ρ c
mutual
@[irreducible] def wS (T : Tb) (n : Nat) (dm : Option Nat) (Z : Sps) : DL.S → VE → Nat → KS → Prop
  | .ex a, ρ, c, K => wX T n dm Z a ρ c K
  | .ret a, ρ, c, K => wE T n dm Z a false ρ c (fun d c => K (.rt d) ρ c) fun e c => K (.rs e) ρ c
  | .retn, ρ, c, K => K (.rt .non) ρ c
  | .asg t a, ρ, c, K => wA T n dm Z t a ρ c K
  | .par is es, ρ, c, K => wPar T n dm Z es ρ c (fun ds c => OOd (parV is ds ρ) fun ρ => K .nx ρ c) fun e c => K (.rs e) ρ c
  | .augv i op a, ρ, c, K => OOd (slV ρ i).v fun x => wE T n dm Z a false ρ c (fun y c => OOd (aug2 op x y) fun z => K .nx (ρ.set i (.val z)) c) fun e c => K (.rs e) ρ c
  | .iff e a b, ρ, c, K => wE T n dm Z e true ρ c (fun x c => OOd (truD x) fun k => if k = true then wSs T n dm Z a ρ c K else wSs T n dm Z b ρ c K) fun e c => K (.rs e) ρ c
  | .forr t it b, ρ, c, K => wI T n dm Z it ρ c (fun ds c => wForD (fun d ρ c K => wT t d ρ fun ρ => wSs T n dm Z b ρ c K) K ds ρ c) fun e c => K (.rs e) ρ c
  | .whl e b, ρ, c, K => wWhlD (fun ρ c Q X => wE T n dm Z e true ρ c (fun x c => OOd (truD x) fun k => Q k c) X) (fun ρ c K => wSs T n dm Z b ρ c K) K T.wf ρ c
  | .brk, ρ, c, K => K .bk ρ c
  | .cnt, ρ, c, K => K .ct ρ c
  | .pas, ρ, c, K => K .nx ρ c
  | .rse C es, ρ, c, K => wEs T n dm Z es false ρ c (fun ds c => raiV T C ds fun e => K (.rs e) ρ c) fun e c => K (.rs e) ρ c
  | .frz i, ρ, c, K => OOd (frzV (slV ρ i)) fun d => K .nx (ρ.set i (.val d)) c
  | .tri b hs, ρ, c, K => wSs T n dm Z b ρ c fun f ρ c => match f with
    | .rs e => wHs T n dm Z hs e ρ c K
    | f => K f ρ c
  | _, _, _, _ => False
@[irreducible] def wSs (T : Tb) (n : Nat) (dm : Option Nat) (Z : Sps) : Ss → VE → Nat → KS → Prop
  | .nil, ρ, c, K => K .nx ρ c
  | .cons s ss, ρ, c, K => wS T n dm Z s ρ c (thV K fun ρ c => wSs T n dm Z ss ρ c K)
@[irreducible] def wHs (T : Tb) (n : Nat) (dm : Option Nat) (Z : Sps) : Hs → Exn → VE → Nat → KS → Prop
  | .nil, e, ρ, c, K => K (.rs e) ρ c
  | .cons C i ss hs, e, ρ, c, K => OOd (T.exm.lookup (e.cls, C)) fun b => if b = true then (match i with
    | none => wSs T n dm Z ss ρ c (noRV K)
    | some i => wSs T n dm Z ss (ρ.set i (.val (.exc e.cls e.ns e.vs))) c (noRV fun f ρ c => K f (ρ.set i .nil) c)) else wHs T n dm Z hs e ρ c K
end
end DL

set_option Elab.async false
set_option linter.all false
set_option maxRecDepth 100000
set_option maxHeartbeats 4000000
set_option autoImplicit true
set_option relaxedAutoImplicit true
/-! the value layer: what a wish says, step by step -/
namespace DL
open PySem PySem.Spec L2

section
variable {T : Tb} {n : Nat} {dm : Option Nat} {S Z : Sps}
theorem w_E_v : wE T n dm S (.v i) r ρ c Q X = (OOd (if r then (slV ρ i).d else (slV ρ i).v) fun d => Q d c) := by with_unfolding_all rfl
theorem w_E_non : wE T n dm S (.non) r ρ c Q X = (Q .non c) := by with_unfolding_all rfl
theorem w_E_bl : wE T n dm S (.bl b) r ρ c Q X = (Q (.bl b) c) := by with_unfolding_all rfl
theorem w_E_int : wE T n dm S (.int i) r ρ c Q X = (Q (.int i) c) := by with_unfolding_all rfl
theorem w_E_str : wE T n dm S (.str x) r ρ c Q X = (Q (.str x) c) := by with_unfolding_all rfl
theorem w_E_gl : wE T n dm S (.gl x) r ρ c Q X = (OOd (T.glob.lookup x) fun d => Q d c) := by with_unfolding_all rfl
theorem w_E_tup : wE T n dm S (.tup es) r ρ c Q X = (wEs T n dm S es false ρ c (fun ds c => ds.length ≤ sizeLine ∧ Q (.tup ds) c) X) := by with_unfolding_all rfl
theorem w_E_lst : wE T n dm S (.lst fz es) r ρ c Q X = ((fz || r) = true ∧ wEs T n dm S es false ρ c (fun ds c => ds.length ≤ sizeLine ∧ Q (.lst ds) c) X) := by with_unfolding_all rfl
theorem w_E_dct : wE T n dm S (.dct fz ps) r ρ c Q X = ((fz || r) = true ∧ wPs T n dm S ps ρ c (fun ps c => ps.length ≤ 15 ∧ OOd (dmerge [] [] ps) fun r => Q (.dct r.1 r.2) c) X) := by with_unfolding_all rfl
theorem w_E_bin : wE T n dm S (.bin op a b) r ρ c Q X = (wE T n dm S a true ρ c (fun x c => wE T n dm S b true ρ c (fun y c => OOd (op2 op x y) fun z => Q z c) X) X) := by with_unfolding_all rfl
theorem w_E_neg : wE T n dm S (.neg a) r ρ c Q X = (wE T n dm S a false ρ c (fun x c => intV x fun i => Q (.int (-i)) c) X) := by with_unfolding_all rfl
theorem w_E_not : wE T n dm S (.not a) r ρ c Q X = (wE T n dm S a true ρ c (fun x c => OOd (truD x) fun b => Q (.bl (!b)) c) X) := by with_unfolding_all rfl
theorem w_E_and : wE T n dm S (.and es) r ρ c Q X = (wAnd T n dm S es r ρ c Q X) := by with_unfolding_all rfl
theorem w_E_or : wE T n dm S (.or es) r ρ c Q X = (wOr T n dm S es r ρ c Q X) := by with_unfolding_all rfl
theorem w_E_cmp : wE T n dm S (.cmp op a b) r ρ c Q X = (wE T n dm S a true ρ c (fun x c => wE T n dm S b true ρ c (fun y c => OOd (cmpD op x y) fun z => Q (.bl z) c) X) X) := by with_unfolding_all rfl
theorem w_E_cmp2 : wE T n dm S (.cmp2 op op' a b e) r ρ c Q X = (wE T n dm S a true ρ c (fun x c => wE T n dm S b true ρ c (fun y c => OOd (cmpD op x y) fun k => if k = true then wE T n dm S e true ρ c (fun z c => OOd (cmpD op' y z) fun k => Q (.bl k) c) X else Q (.bl false) c) X) X) := by with_unfolding_all rfl
theorem w_E_isn : wE T n dm S (.isn a) r ρ c Q X = (wE T n dm S a true ρ c (fun x c => Q (.bl (nonB x)) c) X) := by with_unfolding_all rfl
theorem w_E_notn : wE T n dm S (.notn a) r ρ c Q X = (wE T n dm S a true ρ c (fun x c => Q (.bl (!nonB x)) c) X) := by with_unfolding_all rfl
theorem w_E_ite : wE T n dm S (.ite e a b) r ρ c Q X = (wE T n dm S e true ρ c (fun x c => OOd (truD x) fun k => if k = true then wE T n dm S a r ρ c Q X else wE T n dm S b r ρ c Q X) X) := by with_unfolding_all rfl
theorem w_E_ix : wE T n dm S (.ix a b) r ρ c Q X = (wE T n dm S a true ρ c (fun x c => wE T n dm S b true ρ c (fun y c => OOd (ixD T.kdL x y) fun z => Q z c) X) X) := by with_unfolding_all rfl
theorem w_E_sl : wE T n dm S (.sl a lo hi) r ρ c Q X = (wE T n dm S a true ρ c (fun x c => wPart T n dm S lo ρ c (fun l c => wPart T n dm S hi ρ c (fun h c => OOd (slD x l h) fun z => Q z c) X) X) X) := by with_unfolding_all rfl
theorem w_E_fld : wE T n dm S (.fld a f) r ρ c Q X = (wE T n dm S a true ρ c (fun x c => fldV T f x fun z => Q z c) X) := by with_unfolding_all rfl
theorem w_E_call : wE T n dm S (.call f es) r ρ c Q X = (wEs T n dm S es false ρ c (fun ds c => VCall T n dm S f ds c Q X) X) := by with_unfolding_all rfl
theorem w_E_callv : wE T n dm S (.callv i es) r ρ c Q X = (OOd (slV ρ i).v fun f => match f with
    | .fn x => okG T false x es.len = true ∧ wEs T n dm S es false ρ c (fun ds c => VCall T n dm S x ds c Q X) X
    | _ => False) := by with_unfolding_all rfl
theorem w_E_mk : wE T n dm S (.mk true C es) r ρ c Q X = (wEs T n dm S es false ρ c (fun ds c => OOd (T.inits.lookup C) fun key => okG T true key (ds.length + 1) = true ∧ PMk T n key C ds (fun d => Q d c) fun e => X e c) X) := by with_unfolding_all rfl
theorem w_E_own : wE T n dm S (.own m o es) r ρ c Q X = (wE T n dm S o false ρ c (fun x c => OOd (clsV x) fun p => OOd (T.mets.lookup (p.1, m)) fun key => (!p.2.contains m && okG T true key (es.len + 1)) = true ∧
      wEs T n dm S es false ρ c (fun ds c => VCall T n dm S key (x :: ds) c Q X) X) X) := by with_unfolding_all rfl
theorem w_E_isc : wE T n dm S (.isc a cs b1) r ρ c Q X = (wE T n dm S a false ρ c (fun x c => OOd (iscV (fun C c => T.isi.lookup (C, c)) (fun C c => T.isx.lookup (C, c)) cs x) fun b => Q (.bl b) c) X) := by with_unfolding_all rfl
theorem w_E_slen : wE T n dm S (.slen a) r ρ c Q X = (wE T n dm S a false ρ c (fun x c => slenV x fun d => Q d c) X) := by with_unfolding_all rfl
theorem w_E_bi : wE T n dm S (.bi b es) r ρ c Q X = ((bFz b || r) = true ∧ wEs T n dm S es true ρ c (fun ds c => biV b ds fun d => Q d c) X) := by with_unfolding_all rfl
theorem w_E_mt : wE T n dm S (.mt m o es) r ρ c Q X = (wE T n dm S o true ρ c (fun x c => mtOk m x = true ∧ wEs T n dm S es false ρ c (fun ds c => mtV m x ds fun d => Q d c) X) X) := by with_unfolding_all rfl
theorem w_E_isi : wE T n dm S (.isi a ts b1) r ρ c Q X = (wE T n dm S a true ρ c (fun x c => OOd (isiAny x ts) fun b => Q (.bl b) c) X) := by with_unfolding_all rfl
theorem w_E_lc : wE T n dm S (.lc fz own elt t it ifs) r ρ c Q X = ((fz || r) = true ∧ wI T n dm S it ρ c (fun ds c => ds.length ≤ sizeLine ∧ wLCd (fun d c K => wT t d (wipeV ρ own) fun ρ1 => wIfs T n dm S ifs ρ1 c (fun k c => if k = true then wE T n dm S elt false ρ1 c (fun y c => K (some y) c) (fun _ _ => False) else K none c) (fun _ _ => False)) ds [] c fun xs c => Q (.lst xs) c) X) := by with_unfolding_all rfl
theorem w_E_kget : wE T n dm S (.kget o es) r ρ c Q X = (wE T n dm S o false ρ c (fun x c => tabV T x fun l => wEs T n dm S es false ρ c (fun ds c => get1V l ds fun d => Q d c) X) X) := by with_unfolding_all rfl
theorem w_E_rev : wE T n dm S (.rev a) r ρ c Q X = (wE T n dm S a false ρ c (fun x c => revV x fun d => Q d c) X) := by with_unfolding_all rfl
theorem w_E_deq : wE T n dm S (.deq a b) r ρ c Q X = (wE T n dm S a true ρ c (fun x c => wE T n dm S b true ρ c (fun y c => OOd (deqD x y) fun z => Q (.bl z) c) X) X) := by with_unfolding_all rfl
theorem w_Es_nil : wEs T n dm S (.nil) r ρ c Q X = (Q [] c) := by with_unfolding_all rfl
theorem w_Es_cons : wEs T n dm S (.cons e es) r ρ c Q X = (wE T n dm S e r ρ c (fun x c => wEs T n dm S es r ρ c (fun xs c => Q (x :: xs) c) X) X) := by with_unfolding_all rfl
theorem w_Ps_nil : wPs T n dm S (.nil) ρ c Q X = (Q [] c) := by with_unfolding_all rfl
theorem w_Ps_cons : wPs T n dm S (.cons k v ps) ρ c Q X = (wE T n dm S k false ρ c (fun x c => wE T n dm S v false ρ c (fun y c => wPs T n dm S ps ρ c (fun xs c => Q ((x, y) :: xs) c) X) X) X) := by with_unfolding_all rfl
theorem w_Part_nil : wPart T n dm S (.nil) ρ c Q X = (Q none c) := by with_unfolding_all rfl
theorem w_Part_cons : wPart T n dm S (.cons e .nil) ρ c Q X = (wE T n dm S e false ρ c (fun x c => intV x fun i => Q (some i) c) X) := by with_unfolding_all rfl
theorem w_And_nil : wAnd T n dm S (.nil) r ρ c Q X = (False) := by with_unfolding_all rfl
theorem w_And_cons : wAnd T n dm S (.cons e .nil) r ρ c Q X = (wE T n dm S e r ρ c Q X) := by with_unfolding_all rfl
theorem w_And_cons2 : wAnd T n dm S (.cons e (.cons e2 es)) r ρ c Q X = (wE T n dm S e r ρ c (fun x c => OOd (truD x) fun b => if b = true then wAnd T n dm S (.cons e2 es) r ρ c Q X else Q x c) X) := by with_unfolding_all rfl
theorem w_Or_nil : wOr T n dm S (.nil) r ρ c Q X = (False) := by with_unfolding_all rfl
theorem w_Or_cons : wOr T n dm S (.cons e .nil) r ρ c Q X = (wE T n dm S e r ρ c Q X) := by with_unfolding_all rfl
theorem w_Or_cons2 : wOr T n dm S (.cons e (.cons e2 es)) r ρ c Q X = (wE T n dm S e r ρ c (fun x c => OOd (truD x) fun b => if b = true then Q x c else wOr T n dm S (.cons e2 es) r ρ c Q X) X) := by with_unfolding_all rfl
theorem w_Ifs_nil : wIfs T n dm S (.nil) ρ c Q X = (Q true c) := by with_unfolding_all rfl
theorem w_Ifs_cons : wIfs T n dm S (.cons e es) ρ c Q X = (wE T n dm S e true ρ c (fun x c => OOd (truD x) fun b => if b = true then wIfs T n dm S es ρ c Q X else Q false c) X) := by with_unfolding_all rfl
theorem w_I_e : wI T n dm S (.e a) ρ c Q X = (wE T n dm S a false ρ c (fun x c => itV x fun ds => Q ds c) X) := by with_unfolding_all rfl
theorem w_I_rng1 : wI T n dm S (.rng1 a) ρ c Q X = (wE T n dm S a false ρ c (fun x c => intV x fun j => (-(2 ^ 62) ≤ j ∧ j < 2 ^ 62) ∧ Q (rngD 0 j) c) X) := by with_unfolding_all rfl
theorem w_I_rng2 : wI T n dm S (.rng2 a b) ρ c Q X = (wE T n dm S a false ρ c (fun x c => wE T n dm S b false ρ c (fun y c => intV x fun i => intV y fun j => (-(2 ^ 62) ≤ i ∧ i < 2 ^ 62 ∧ -(2 ^ 62) ≤ j ∧ j < 2 ^ 62) ∧ Q (rngD i j) c) X) X) := by with_unfolding_all rfl
theorem w_I_enum : wI T n dm S (.enum a) ρ c Q X = (wE T n dm S a false ρ c (fun x c => seqV x fun xs => Q (enumD xs) c) X) := by with_unfolding_all rfl
theorem w_I_zip : wI T n dm S (.zip a b) ρ c Q X = (wE T n dm S a false ρ c (fun x c => wE T n dm S b false ρ c (fun y c => zipV x y fun xs => Q xs c) X) X) := by with_unfolding_all rfl
theorem w_I_items : wI T n dm S (.items a) ρ c Q X = (wE T n dm S a false ρ c (fun x c => itemsV x fun ks vs => Q (zipD ks vs) c) X) := by with_unfolding_all rfl
theorem w_I_vals : wI T n dm S (.vals a) ρ c Q X = (wE T n dm S a false ρ c (fun x c => itemsV x fun ks vs => Q vs c) X) := by with_unfolding_all rfl
theorem w_S_ex : wS T n dm Z (.ex a) ρ c K = (wX T n dm Z a ρ c K) := by with_unfolding_all rfl
theorem w_S_ret : wS T n dm Z (.ret a) ρ c K = (wE T n dm Z a false ρ c (fun d c => K (.rt d) ρ c) fun e c => K (.rs e) ρ c) := by with_unfolding_all rfl
theorem w_S_retn : wS T n dm Z (.retn) ρ c K = (K (.rt .non) ρ c) := by with_unfolding_all rfl
theorem w_S_asg : wS T n dm Z (.asg t a) ρ c K = (wA T n dm Z t a ρ c K) := by with_unfolding_all rfl
theorem w_S_par : wS T n dm Z (.par is es) ρ c K = (wPar T n dm Z es ρ c (fun ds c => OOd (parV is ds ρ) fun ρ => K .nx ρ c) fun e c => K (.rs e) ρ c) := by with_unfolding_all rfl
theorem w_S_augv : wS T n dm Z (.augv i op a) ρ c K = (OOd (slV ρ i).v fun x => wE T n dm Z a false ρ c (fun y c => OOd (aug2 op x y) fun z => K .nx (ρ.set i (.val z)) c) fun e c => K (.rs e) ρ c) := by with_unfolding_all rfl
theorem w_S_iff : wS T n dm Z (.iff e a b) ρ c K = (wE T n dm Z e true ρ c (fun x c => OOd (truD x) fun k => if k = true then wSs T n dm Z a ρ c K else wSs T n dm Z b ρ c K) fun e c => K (.rs e) ρ c) := by with_unfolding_all rfl
theorem w_S_forr : wS T n dm Z (.forr t it b) ρ c K = (wI T n dm Z it ρ c (fun ds c => wForD (fun d ρ c K => wT t d ρ fun ρ => wSs T n dm Z b ρ c K) K ds ρ c) fun e c => K (.rs e) ρ c) := by with_unfolding_all rfl
theorem w_S_whl : wS T n dm Z (.whl e b) ρ c K = (wWhlD (fun ρ c Q X => wE T n dm Z e true ρ c (fun x c => OOd (truD x) fun k => Q k c) X) (fun ρ c K => wSs T n dm Z b ρ c K) K T.wf ρ c) := by with_unfolding_all rfl
theorem w_S_brk : wS T n dm Z (.brk) ρ c K = (K .bk ρ c) := by with_unfolding_all rfl
theorem w_S_cnt : wS T n dm Z (.cnt) ρ c K = (K .ct ρ c) := by with_unfolding_all rfl
theorem w_S_pas : wS T n dm Z (.pas) ρ c K = (K .nx ρ c) := by with_unfolding_all rfl
theorem w_S_rse : wS T n dm Z (.rse C es) ρ c K = (wEs T n dm Z es false ρ c (fun ds c => raiV T C ds fun e => K (.rs e) ρ c) fun e c => K (.rs e) ρ c) := by with_unfolding_all rfl
theorem w_S_frz : wS T n dm Z (.frz i) ρ c K = (OOd (frzV (slV ρ i)) fun d => K .nx (ρ.set i (.val d)) c) := by with_unfolding_all rfl
theorem w_S_tri : wS T n dm Z (.tri b hs) ρ c K = (wSs T n dm Z b ρ c fun f ρ c => match f with
    | .rs e => wHs T n dm Z hs e ρ c K
    | f => K f ρ c) := by with_unfolding_all rfl
theorem w_Ss_nil : wSs T n dm Z (.nil) ρ c K = (K .nx ρ c) := by with_unfolding_all rfl
theorem w_Ss_cons : wSs T n dm Z (.cons s ss) ρ c K = (wS T n dm Z s ρ c (thV K fun ρ c => wSs T n dm Z ss ρ c K)) := by with_unfolding_all rfl
theorem w_Hs_nil : wHs T n dm Z (.nil) e ρ c K = (K (.rs e) ρ c) := by with_unfolding_all rfl
theorem w_Hs_cons : wHs T n dm Z (.cons C i ss hs) e ρ c K = (OOd (T.exm.lookup (e.cls, C)) fun b => if b = true then (match i with
    | none => wSs T n dm Z ss ρ c (noRV K)
    | some i => wSs T n dm Z ss (ρ.set i (.val (.exc e.cls e.ns e.vs))) c (noRV fun f ρ c => K f (ρ.set i .nil) c)) else wHs T n dm Z hs e ρ c K) := by with_unfolding_all rfl
theorem w_T_v {i : Nat} {K : VE → Prop} : wT (.v i) d ρ K = K (ρ.set i (.val d)) := by with_unfolding_all rfl
theorem w_T_tup {ts : Tgs} {K : VE → Prop} : wT (.tup ts) d ρ K = OO (itemsD d) fun ds => ds.length = ts.len ∧ wTs ts ds ρ K := by with_unfolding_all rfl
theorem w_Ts_nil {K : VE → Prop} : wTs .nil [] ρ K = K ρ := by with_unfolding_all rfl
theorem w_Ts_cons {t : Tg} {ts : Tgs} {ds : List D} {K : VE → Prop} : wTs (.cons t ts) (d :: ds) ρ K = wT t d ρ fun ρ => wTs ts ds ρ K := by with_unfolding_all rfl

end
end DL

set_option Elab.async false
set_option linter.all false
set_option maxRecDepth 100000
set_option maxHeartbeats 4000000
/-! the value layer: what stands behind values -/
namespace DL
open PySem PySem.Spec L2

theorem OO_get {α : Type} {o : Option α} {Q : α → Prop} (h : OO o Q) : ∃ a, o = some a ∧ Q a := by
  cases o with
  | none => rw [OO_none] at h; exact h.elim
  | some a => rw [OO_some] at h; exact ⟨a, rfl, h⟩
theorem OO_of {α : Type} {o : Option α} {a : α} {Q : α → Prop} (e : o = some a) (h : Q a) : OO o Q := by rw [e, OO_some]; exact h
theorem OO_mono {α : Type} {o : Option α} {Q Q' : α → Prop} (h : OO o Q) (k : ∀ a, Q a → Q' a) : OO o Q' := by
  obtain ⟨a, e, q⟩ := OO_get h
  exact OO_of e (k a q)
def nref (v : D) : Prop := ∀ k, v ≠ .ref k
theorem rd_nref {g : G} {v : D} (h : nref v) : rd g v = v := by
  cases v <;> first | rfl | exact absurd rfl (h _)
def oD : O → Option D
  | .lst xs => some (.lst xs)
  | .dct ks vs => some (.dct ks vs)
  | .ins C ns vs => some (.obj C ns vs)
  | .gone => none
theorem oD_nref {o : O} {v : D} (h : oD o = some v) : nref v := by
  intro k e
  subst e
  cases o <;> simp [oD] at h
theorem rd_o {g : G} {k : Nat} {o : O} {v : D} (e : g[k]? = some o) (h : oD o = some v) : rd g (.ref k) = v := by
  rw [rdR, e]
  cases o <;> simp [oD] at h <;> exact h
/-- a value, or what is read where it stands -/
def RvR (r : Bool) (dm : Option Nat) (g : G) (d v : D) : Prop := d = v ∨ (r = true ∧ ∃ k o, d = .ref k ∧ g[k]? = some o ∧ k ∉ dL dm ∧ oD o = some v)
theorem RvR.rd {r : Bool} {dm : Option Nat} {g : G} {d v : D} (h : RvR r dm g d v) (n : nref v) : rd g d = v := by
  rcases h with rfl | ⟨_, k, o, rfl, e, _, q⟩
  · exact rd_nref n
  · exact rd_o e q
theorem RvR.ref {r : Bool} {dm : Option Nat} {g : G} {d : D} {k : Nat} (h : RvR r dm g d (.ref k)) : d = .ref k := by
  rcases h with rfl | ⟨_, k, o, rfl, e, _, q⟩
  · rfl
  · exact absurd rfl (oD_nref q _)
theorem RvR.keep {r : Bool} {dm : Option Nat} {g g' : G} {d v : D} (h : RvR r dm g d v) (k : Keep (dL dm) g g') : RvR r dm g' d v := by
  rcases h with rfl | ⟨hr, i, o, rfl, e, n, q⟩
  · exact .inl rfl
  · exact .inr ⟨hr, i, o, rfl, k.at e n, n, q⟩
theorem RvR.eq {dm : Option Nat} {g : G} {d v : D} (h : RvR false dm g d v) : d = v := by
  rcases h with h | ⟨h, _⟩
  · exact h
  · cases h
theorem RvR.flat {r : Bool} {dm : Option Nat} {g : G} {d v : D} (h : RvR r dm g d v) (n : ∀ o, oD o ≠ some v) : d = v := by
  rcases h with h | ⟨_, k, o, rfl, e, _, q⟩
  · exact h
  · exact absurd q (n o)
def RvRs (r : Bool) (dm : Option Nat) (g : G) : List D → List D → Prop
  | [], [] => True
  | d :: ds, v :: vs => RvR r dm g d v ∧ RvRs r dm g ds vs
  | _, _ => False
theorem RvRs.eq {dm : Option Nat} {g : G} : ∀ {ds vs : List D}, RvRs false dm g ds vs → ds = vs
  | [], [], _ => rfl
  | d :: ds, v :: vs, h => by rw [h.1.eq, RvRs.eq h.2]
  | [], _ :: _, h => h.elim
  | _ :: _, [], h => h.elim
theorem RvRs.keep {r : Bool} {dm : Option Nat} {g g' : G} (k : Keep (dL dm) g g') : ∀ {ds vs : List D}, RvRs r dm g ds vs → RvRs r dm g' ds vs
  | [], [], _ => trivial
  | d :: ds, v :: vs, h => ⟨h.1.keep k, RvRs.keep k h.2⟩
  | [], _ :: _, h => h.elim
  | _ :: _, [], h => h.elim
/-! the slots -/
def SlR (g0 g : G) (ev : EV) (h : Option D) : Prop := (∀ d, ev = .val d → h = some d) ∧ ∀ o, ev.o = some o → ∃ k, h = some (.ref k) ∧ g[k]? = some o ∧ g0.length ≤ k
structure Re (dm_ : Option Nat) (g0 g : G) (ρ : VE) (ρh : Env') : Prop where
  len : ρ.length = ρh.length
  sl : ∀ (i : Nat) (ev : EV), ρ[i]? = some ev → ∃ h, ρh[i]? = some h ∧ SlR g0 g ev h
  inj : ∀ (i j : Nat) (ev ev' : EV) (o o' : O) (k : Nat), ρ[i]? = some ev → ρ[j]? = some ev' → ev.o = some o → ev'.o = some o' → ρh[i]? = some (some (.ref k)) → ρh[j]? = some (some (.ref k)) → i = j
  dm : ∀ m ∈ dL dm_, m < g0.length
  kp : Keep (dL dm_) g0 g
  ob : ∀ (i : Nat) (C : Str) (ns : List Str) (vs : List D), ρ[i]? = some (.obj C ns vs) → ρh[i]? = some (some (.ref g0.length))
section
variable {dm : Option Nat} {g0 g g' : G} {ρ : VE} {ρh : Env'}
theorem Re.fresh (R : Re dm g0 g ρ ρh) {k : Nat} (h : g0.length ≤ k) : k ∉ dL dm := fun z => by have := R.dm k z; omega
theorem Re.keep (R : Re dm g0 g ρ ρh) (k : Keep (dL dm) g g') : Re dm g0 g' ρ ρh where
  len := R.len
  sl := fun i ev e => by
    obtain ⟨h, e1, h1, h2⟩ := R.sl i ev e
    refine ⟨h, e1, h1, fun o eo => ?_⟩
    obtain ⟨a, q1, q2, q3⟩ := h2 o eo
    exact ⟨a, q1, k.at q2 (R.fresh q3), q3⟩
  inj := R.inj
  dm := R.dm
  kp := R.kp.trans k
  ob := R.ob
theorem slV_some {i : Nat} {ev : EV} (h : slV ρ i = ev) (n : ev ≠ .nil) : ρ[i]? = some ev := by
  unfold slV at h
  rw [List.getD_eq_getElem?_getD] at h
  cases e : ρ[i]? with
  | none => rw [e] at h; exact absurd h.symm n
  | some x => rw [e] at h; rw [← h]; rfl
theorem Re.val (R : Re dm g0 g ρ ρh) {i : Nat} {d : D} (h : (slV ρ i).v = some d) : slot ρh i = some d := by
  cases e : slV ρ i with
  | val x =>
    rw [e] at h
    cases h
    obtain ⟨h, e1, h1, _⟩ := R.sl i _ (slV_some e (by simp))
    unfold slot
    rw [e1, h1 _ rfl]
  | _ => rw [e] at h; cases h
theorem EV.o_d {ev : EV} {o : O} (h : ev.o = some o) : ev.d = oD o ∧ ∃ v, oD o = some v := by
  cases ev <;> cases h <;> exact ⟨rfl, _, rfl⟩
theorem Re.rdv (R : Re dm g0 g ρ ρh) {i : Nat} {v : D} (h : (slV ρ i).d = some v) : ∃ d, slot ρh i = some d ∧ RvR true dm g d v := by
  cases e : slV ρ i with
  | nil => rw [e] at h; cases h
  | val x =>
    rw [e] at h
    cases h
    exact ⟨_, R.val (by rw [e]; rfl), .inl rfl⟩
  | _ =>
    rw [e] at h
    obtain ⟨hh, e1, _, h2⟩ := R.sl i _ (slV_some e (by simp))
    obtain ⟨k, q1, q2, q3⟩ := h2 _ rfl
    refine ⟨.ref k, by unfold slot; rw [e1, q1], .inr ⟨rfl, k, _, rfl, q2, R.fresh q3, h⟩⟩
theorem set_get {α : Type} {l : List α} {i j : Nat} {x y : α} (h : (l.set i x)[j]? = some y) : (i = j ∧ y = x ∧ i < l.length) ∨ (i ≠ j ∧ l[j]? = some y) := by
  by_cases e : i = j
  · subst e
    left
    have hi : i < (l.set i x).length := (List.getElem?_eq_some_iff.mp h).1
    rw [List.length_set] at hi
    rw [List.getElem?_set_self hi] at h
    cases h
    exact ⟨rfl, rfl, hi⟩
  · right
    rw [List.getElem?_set_ne e] at h
    exact ⟨e, h⟩
theorem Re.setV (R : Re dm g0 g ρ ρh) (i : Nat) (d : D) : Re dm g0 g (ρ.set i (.val d)) (ρh.set i (some d)) where
  len := by rw [List.length_set, List.length_set]; exact R.len
  sl := fun j ev e => by
    rcases set_get e with ⟨rfl, rfl, hi⟩ | ⟨hn, e⟩
    · exact ⟨some d, List.getElem?_set_self (by rw [← R.len]; exact hi), (fun _ q => by cases q; rfl), (fun _ q => by cases q)⟩
    · obtain ⟨h, e1, r⟩ := R.sl j ev e
      exact ⟨h, by rw [List.getElem?_set_ne hn]; exact e1, r⟩
  inj := fun j l ev ev' o o' k e1 e2 q1 q2 h1 h2 => by
    rcases set_get e1 with ⟨rfl, rfl, _⟩ | ⟨n1, e1⟩
    · cases q1
    rcases set_get e2 with ⟨rfl, rfl, _⟩ | ⟨n2, e2⟩
    · cases q2
    rw [List.getElem?_set_ne n1] at h1
    rw [List.getElem?_set_ne n2] at h2
    exact R.inj j l ev ev' o o' k e1 e2 q1 q2 h1 h2
  dm := R.dm
  kp := R.kp
  ob := fun j C ns vs e => by
    rcases set_get e with ⟨_, q, _⟩ | ⟨n1, e⟩
    · cases q
    · rw [List.getElem?_set_ne n1]; exact R.ob j C ns vs e
theorem Re.setN (R : Re dm g0 g ρ ρh) (i : Nat) : Re dm g0 g (ρ.set i .nil) (ρh.set i none) where
  len := by rw [List.length_set, List.length_set]; exact R.len
  sl := fun j ev e => by
    rcases set_get e with ⟨rfl, rfl, hi⟩ | ⟨hn, e⟩
    · exact ⟨none, List.getElem?_set_self (by rw [← R.len]; exact hi), (fun _ q => by cases q), (fun _ q => by cases q)⟩
    · obtain ⟨h, e1, r⟩ := R.sl j ev e
      exact ⟨h, by rw [List.getElem?_set_ne hn]; exact e1, r⟩
  inj := fun j l ev ev' o o' k e1 e2 q1 q2 h1 h2 => by
    rcases set_get e1 with ⟨rfl, rfl, _⟩ | ⟨n1, e1⟩
    · cases q1
    rcases set_get e2 with ⟨rfl, rfl, _⟩ | ⟨n2, e2⟩
    · cases q2
    rw [List.getElem?_set_ne n1] at h1
    rw [List.getElem?_set_ne n2] at h2
    exact R.inj j l ev ev' o o' k e1 e2 q1 q2 h1 h2
  dm := R.dm
  kp := R.kp
  ob := fun j C ns vs e => by
    rcases set_get e with ⟨_, q, _⟩ | ⟨n1, e⟩
    · cases q
    · rw [List.getElem?_set_ne n1]; exact R.ob j C ns vs e
theorem Re.wipe (R : Re dm g0 g ρ ρh) : ∀ own : List Nat, Re dm g0 g (wipeV ρ own) (wipeE ρh own)
  | [] => R
  | v :: vs => (R.wipe vs).setN v
/-- a fresh thing -/
theorem Re.setM (R : Re dm g0 g ρ ρh) (i : Nat) {ev : EV} {o : O} {k : Nat} (ho : ev.o = some o) (nob : ∀ C ns vs, ev ≠ .obj C ns vs) (hk : g[k]? = some o) (hg : g0.length ≤ k) (hf : ∀ (j : Nat) (ev' : EV) (o' : O), ρ[j]? = some ev' → ev'.o = some o' → ρh[j]? ≠ some (some (D.ref k))) : Re dm g0 g (ρ.set i ev) (ρh.set i (some (.ref k))) where
  len := by rw [List.length_set, List.length_set]; exact R.len
  sl := fun j ev' e => by
    rcases set_get e with ⟨rfl, rfl, hi⟩ | ⟨hn, e⟩
    · refine ⟨some (.ref k), List.getElem?_set_self (by rw [← R.len]; exact hi), fun d q => ?_, fun o' q => ?_⟩
      · subst q; cases ho
      · rw [ho] at q; cases q
        exact ⟨k, rfl, hk, hg⟩
    · obtain ⟨h, e1, r⟩ := R.sl j ev' e
      exact ⟨h, by rw [List.getElem?_set_ne hn]; exact e1, r⟩
  inj := fun j l ev1 ev2 o1 o2 k' e1 e2 q1 q2 h1 h2 => by
    rcases set_get e1 with ⟨rfl, rfl, hi⟩ | ⟨n1, f1⟩
    · rcases set_get e2 with ⟨rfl, rfl, _⟩ | ⟨n2, e2⟩
      · rfl
      · rw [List.getElem?_set_self (by rw [← R.len]; exact hi)] at h1
        rw [List.getElem?_set_ne n2] at h2
        cases h1
        exact absurd h2 (hf l ev2 o2 e2 q2)
    · rcases set_get e2 with ⟨rfl, rfl, hi⟩ | ⟨n2, e2⟩
      · rw [List.getElem?_set_self (by rw [← R.len]; exact hi)] at h2
        rw [List.getElem?_set_ne n1] at h1
        cases h2
        exact absurd h1 (hf j ev1 o1 f1 q1)
      · rw [List.getElem?_set_ne n1] at h1
        rw [List.getElem?_set_ne n2] at h2
        exact R.inj j l ev1 ev2 o1 o2 k' f1 e2 q1 q2 h1 h2
  dm := R.dm
  kp := R.kp
  ob := fun j C ns vs e => by
    rcases set_get e with ⟨_, q, _⟩ | ⟨n1, e⟩
    · exact absurd q.symm (nob C ns vs)
    · rw [List.getElem?_set_ne n1]; exact R.ob j C ns vs e
/-- a thing of one's own changed -/
theorem Re.upd (R : Re dm g0 g ρ ρh) {i k : Nat} {ev ev' : EV} {o o' : O} (he : ρ[i]? = some ev) (ho : ev.o = some o) (ho' : ev'.o = some o') (hk : ρh[i]? = some (some (.ref k))) (hob : ∀ C ns vs, ev' = .obj C ns vs → ∃ C ns vs, ev = .obj C ns vs) : Re dm g0 (g.set k o') (ρ.set i ev') ρh where
  len := by rw [List.length_set]; exact R.len
  sl := fun j ev2 e => by
    obtain ⟨hh, e1, _, h2⟩ := R.sl i ev he
    obtain ⟨k2, q1, q2, q3⟩ := h2 o ho
    rw [hk] at e1
    cases e1
    cases q1
    rcases set_get e with ⟨rfl, rfl, hi⟩ | ⟨hn, e⟩
    · refine ⟨some (.ref k), hk, fun d q => ?_, fun o2 q => ?_⟩
      · subst q; cases ho'
      · rw [ho'] at q; cases q
        exact ⟨k, rfl, set_self q2, q3⟩
    · obtain ⟨h, e1, r1, r2⟩ := R.sl j ev2 e
      refine ⟨h, e1, r1, fun o2 q => ?_⟩
      obtain ⟨k2, s1, s2, s3⟩ := r2 o2 q
      subst s1
      have : k ≠ k2 := fun z => by
        subst z
        exact hn (R.inj i j ev ev2 o o2 k he e ho q hk e1)
      exact ⟨k2, rfl, by rw [List.getElem?_set_ne this]; exact s2, s3⟩
  inj := fun j l ev1 ev2 o1 o2 k' e1 e2 q1 q2 h1 h2 => by
    have f : ∀ (j : Nat) (e : EV) (oo : O), (ρ.set i ev')[j]? = some e → e.o = some oo → ∃ e2 o2, ρ[j]? = some e2 ∧ e2.o = some o2 := by
      intro j e oo h q
      rcases set_get h with ⟨rfl, rfl, hi⟩ | ⟨hn, h⟩
      · exact ⟨ev, o, he, ho⟩
      · exact ⟨e, oo, h, q⟩
    obtain ⟨a1, b1, c1, d1⟩ := f j ev1 o1 e1 q1
    obtain ⟨a2, b2, c2, d2⟩ := f l ev2 o2 e2 q2
    exact R.inj j l a1 a2 b1 b2 k' c1 c2 d1 d2 h1 h2
  dm := R.dm
  kp := by
    obtain ⟨hh, e1, _, h2⟩ := R.sl i ev he
    obtain ⟨k2, q1, q2, q3⟩ := h2 o ho
    rw [hk] at e1
    cases e1
    cases q1
    exact R.kp.setIn (.inr q3)
  ob := fun j C ns vs e => by
    rcases set_get e with ⟨rfl, q, _⟩ | ⟨n1, e⟩
    · obtain ⟨C2, ns2, vs2, q2⟩ := hob C ns vs q.symm
      subst q2
      exact R.ob i _ _ _ he
    · exact R.ob j C ns vs e
theorem Re.getO (R : Re dm g0 g ρ ρh) {i : Nat} {ev : EV} {o : O} (h : slV ρ i = ev) (ho : ev.o = some o) : ρ[i]? = some ev ∧ ∃ k, slot ρh i = some (.ref k) ∧ ρh[i]? = some (some (.ref k)) ∧ g[k]? = some o ∧ g0.length ≤ k := by
  have e : ρ[i]? = some ev := slV_some h (by rintro rfl; cases ho)
  obtain ⟨hh, e1, _, h2⟩ := R.sl i ev e
  obtain ⟨k, q1, q2, q3⟩ := h2 o ho
  subst q1
  exact ⟨e, k, by unfold slot; rw [e1], e1, q2, q3⟩
end
theorem DX.keepN {dm : Option Nat} {c : Nat} {g g' : G} {ms : List Nat} (h : DX dm c g) (k : Keep ms g g') (n : ∀ m ∈ dL dm, m ∉ ms) : DX dm c g' := by
  cases dm with
  | none => trivial
  | some m => exact Dr.keep h k (n m (by simp [dL]))
theorem DX.set {dm : Option Nat} {c k : Nat} {g : G} {o : O} (h : DX dm c g) (n : k ∉ dL dm) : DX dm c (g.set k o) := h.keepN (ms := [k]) .set (fun m hm z => n (by rw [List.mem_singleton] at z; rw [← z]; exact hm))
theorem DX.app {dm : Option Nat} {c : Nat} {g : G} {o : List O} (h : DX dm c g) : DX dm c (g ++ o) := h.keepN (ms := []) .app (fun _ _ z => by cases z)
end DL

set_option Elab.async false
set_option linter.all false
set_option maxRecDepth 100000
set_option maxHeartbeats 4000000
/-! the value layer: operations read what stands there -/
namespace DL
open PySem PySem.Spec L2

theorem nref_of {v : D} (h : ∀ k, v = .ref k → False) : nref v := fun k e => h k e
theorem eqO_ref {k : Nat} {y : D} : eqO (.ref k) y = none := by
  cases h : eqO (.ref k) y with
  | none => rfl
  | some b => have := (eqO_kind h).1; simp [kindD] at this
theorem eqO_ref' {k : Nat} {y : D} : eqO y (.ref k) = none := by
  cases h : eqO y (.ref k) with
  | none => rfl
  | some b => have := (eqO_kind h).2; simp [kindD] at this
theorem eqD_some' {x y : D} {b : Bool} (h : eqD x y = some b) : eqO x y = some b := by
  unfold eqD at h
  split at h
  · exact h
  · cases h
theorem eqD_nref {x y : D} {b : Bool} (h : eqD x y = some b) : nref x ∧ nref y := by
  have h := eqD_some' h
  exact ⟨(fun k e => by rw [e, eqO_ref] at h; cases h), (fun k e => by rw [e, eqO_ref'] at h; cases h)⟩
theorem op2_nref {op : Op2} {x y z : D} (h : op2 op x y = some z) : nref x ∧ nref y := by
  constructor
  · rintro k rfl
    cases op <;> cases y <;> simp [op2] at h
  · rintro k rfl
    cases op <;> cases x <;> simp [op2] at h
theorem truD_nref {x : D} {b : Bool} (h : truD x = some b) : nref x := by
  rintro k rfl
  simp [truD] at h
section
variable {r r' : Bool} {dm : Option Nat} {g : G} {d e v w : D}
theorem op2_rd {op : Op2} {z : D} (h : op2 op v w = some z) (a : RvR r dm g d v) (b : RvR r' dm g e w) : op2 op (rd g d) (rd g e) = some z := by
  rw [a.rd (op2_nref h).1, b.rd (op2_nref h).2, h]
theorem truD_rd {z : Bool} (h : truD v = some z) (a : RvR r dm g d v) : truD (rd g d) = some z := by
  rw [a.rd (truD_nref h), h]
theorem inOs_ref {k : Nat} {ys : List D} {b : Bool} (h : inOs (.ref k) ys = some b) : ys = [] := by
  cases ys with
  | nil => rfl
  | cons y ys =>
    rw [in_cons] at h
    cases q : eqD y (.ref k) with
    | none => rw [q] at h; cases inOs (.ref k) ys <;> cases h
    | some b1 => exact absurd rfl ((eqD_nref q).2 k)
theorem inD_rd {z : Bool} (h : inD v w = some z) (a : RvR r dm g d v) (b : RvR r' dm g e w) : inD (rd g d) (rd g e) = some z := by
  have nw : nref w := by
    rintro k rfl
    simp [inD] at h
  rw [b.rd nw]
  by_cases nv : nref v
  · rw [a.rd nv, h]
  · have : ∃ k, v = .ref k := by
      cases v <;> first | exact ⟨_, rfl⟩ | exact absurd (fun k e => by cases e) nv
    obtain ⟨k, rfl⟩ := this
    cases w <;> simp only [inD] at h ⊢
    case tup ys => have e := inOs_ref h; subst e; exact h
    case lst ys => have e := inOs_ref h; subst e; exact h
    all_goals first | cases h | skip
    all_goals (simp [keyOf] at h)
theorem cmp_rd {op : Cp} {z : Bool} (h : cmpD op v w = some z) (a : RvR r dm g d v) (b : RvR r' dm g e w) : cmpD op (rd g d) (rd g e) = some z := by
  cases op with
  | eq =>
    have h' : eqD v w = some z := h
    rw [a.rd (eqD_nref h').1, b.rd (eqD_nref h').2, h]
  | ne =>
    have h' : (eqD v w).map (!·) = some z := h
    cases q : eqD v w with
    | none => rw [q] at h'; cases h'
    | some z' => rw [a.rd (eqD_nref q).1, b.rd (eqD_nref q).2, h]
  | isin => exact inD_rd h a b
  | notin =>
    have h' : (inD v w).map (!·) = some z := h
    cases q : inD v w with
    | none => rw [q] at h'; cases h'
    | some z' =>
      show (inD _ _).map _ = _
      rw [inD_rd q a b, ← q]
      exact h'
  | lt => cases v <;> first | (cases h; done) | skip
          cases w <;> first | (cases h; done) | skip
          rw [a.rd (nref_of fun _ z => by cases z), b.rd (nref_of fun _ z => by cases z), h]
  | le => cases v <;> first | (cases h; done) | skip
          cases w <;> first | (cases h; done) | skip
          rw [a.rd (nref_of fun _ z => by cases z), b.rd (nref_of fun _ z => by cases z), h]
  | gt => cases v <;> first | (cases h; done) | skip
          cases w <;> first | (cases h; done) | skip
          rw [a.rd (nref_of fun _ z => by cases z), b.rd (nref_of fun _ z => by cases z), h]
  | ge => cases v <;> first | (cases h; done) | skip
          cases w <;> first | (cases h; done) | skip
          rw [a.rd (nref_of fun _ z => by cases z), b.rd (nref_of fun _ z => by cases z), h]
theorem ix_rd {kd : Str → Str → Option D} {z : D} (h : ixD kd v w = some z) (a : RvR r dm g d v) (b : RvR r' dm g e w) : ixD kd (rd g d) (rd g e) = some z := by
  have n1 : nref v := by rintro k rfl; simp [ixD] at h
  have n2 : nref w := by
    rintro k rfl
    cases v <;> simp [ixD, keyOf] at h
  rw [a.rd n1, b.rd n2, h]
theorem sl_rd {lo hi : Option Int} {z : D} (h : slD v lo hi = some z) (a : RvR r dm g d v) : slD (rd g d) lo hi = some z := by
  have n1 : nref v := by rintro k rfl; simp [slD] at h
  rw [a.rd n1, h]
theorem deq_rd {z : Bool} (h : deqD v w = some z) (a : RvR r dm g d v) (b : RvR r' dm g e w) : deqD (rd g d) (rd g e) = some z := by
  have n1 : nref v := by rintro k rfl; simp [deqD] at h
  have n2 : nref w := by rintro k rfl; cases v <;> simp [deqD] at h
  rw [a.rd n1, b.rd n2, h]
theorem isi_rd {ts : List Ty} {z : Bool} (h : isiAny v ts = some z) (a : RvR r dm g d v) : isiAny (rd g d) ts = some z := by
  by_cases n1 : nref v
  · rw [a.rd n1, h]
  · have : ∃ k, v = .ref k := by
      cases v <;> first | exact ⟨_, rfl⟩ | exact absurd (fun k e => by cases e) n1
    obtain ⟨k, rfl⟩ := this
    cases ts with
    | nil => exact h
    | cons t ts =>
      have : isiB (.ref k) t = none := by cases t <;> rfl
      simp [isiAny, this] at h
theorem fld_rd {T : Tb} {f : Str} {Q : D → Prop} {P : D → G → Prop} {E : Exn → G → Prop} (h : fldV T f v Q) (a : RvR r dm g d v) (k : ∀ z, Q z → P z g) : Ok (fldM T.fld d f g) P E := by
  cases v <;> simp only [fldV] at h
  rename_i C ns vs
  obtain ⟨h1, h2⟩ := h
  obtain ⟨z, e, q⟩ := OO_get h2
  unfold fldM
  rw [a.rd (nref_of fun _ z => by cases z)]
  simp only [h1, e]
  rw [Ok_ok]
  exact k z q
theorem isc_rd {isi isx : Str → Str → Option Bool} {cs : List Str} {z : Bool} (h : iscV isi isx cs v = some z) : iscB isi isx cs g v = some z := by
  cases v <;> first | (cases h; done) | exact h
theorem cls_rd {p : Str × List Str} (h : clsV v = some p) : clsO g v = some p := by
  cases v <;> first | (cases h; done) | exact h
end
section
variable {r : Bool} {dm : Option Nat} {g : G}
theorem one_rd {b : Bi} {vs : List D} {Q : D → Prop} (h : biV b vs Q) : (∃ x, vs = [x]) ∨ ∃ i j, vs = [.int i, .int j] := by
  match vs, h with
  | [x], _ => exact .inl ⟨x, rfl⟩
  | [], h => cases b <;> exact h.elim
  | _ :: _ :: _ :: _, h => cases b <;> (simp only [biV] at h)
  | [x, y], h =>
    cases b <;> first | exact h.elim | skip
    all_goals (cases x <;> first | exact h.elim | skip)
    all_goals (cases y <;> first | exact h.elim | skip)
    all_goals exact .inr ⟨_, _, rfl⟩
theorem lenO_mono {Q Q' : D → Prop} {x : D} (h : lenO Q x) (k : ∀ d, Q d → Q' d) : lenO Q' x := by
  cases x <;> first | exact h.elim | exact k _ h | exact ⟨h.1, k _ h.2⟩
theorem lenO_nref {Q : D → Prop} {x : D} (h : lenO Q x) : nref x := by rintro k rfl; exact h.elim
theorem seqO_nref {Q : List D → Prop} {x : D} (h : seqO Q x) : nref x := by rintro k rfl; exact h.elim
theorem lsdO_nref {Q : List D → Prop} {x : D} (h : lsdO Q x) : nref x := by rintro k rfl; exact h.elim
theorem lstO_nref {Q : List D → Prop} {x : D} (h : lstO Q x) : nref x := by rintro k rfl; exact h.elim
theorem dicO_nref {Q : List D → List D → Prop} {x : D} (h : dicO Q x) : nref x := by rintro k rfl; exact h.elim
theorem seqO_mono {Q Q' : List D → Prop} {x : D} (h : seqO Q x) (k : ∀ d, Q d → Q' d) : seqO Q' x := by
  cases x <;> first | exact h.elim | exact k _ h
theorem lsdO_mono {Q Q' : List D → Prop} {x : D} (h : lsdO Q x) (k : ∀ d, Q d → Q' d) : lsdO Q' x := by
  cases x <;> first | exact h.elim | exact k _ h | exact ⟨h.1, k _ h.2⟩
theorem lstO_mono {Q Q' : List D → Prop} {x : D} (h : lstO Q x) (k : ∀ d, Q d → Q' d) : lstO Q' x := by
  cases x <;> first | exact h.elim | exact k _ h
theorem dicO_mono {Q Q' : List D → List D → Prop} {x : D} (h : dicO Q x) (k : ∀ a b, Q a b → Q' a b) : dicO Q' x := by
  cases x <;> first | exact h.elim | skip
  · simp only [dicO] at h ⊢
    exact OO_mono h fun q hq => OO_mono hq fun r hr => k _ _ hr
  · simp only [dicO] at h ⊢
    exact ⟨h.1, k _ _ h.2⟩
/-- a built-in function's value stands there, or newly -/
theorem bi_rd {b : Bi} {ds vs : List D} {Q : D → Prop} {P : D → G → Prop} {E : Exn → G → Prop} (h : biV b vs Q) (hr : (bFz b || r) = true) (a : RvRs r dm g ds vs) (hd : ∀ m ∈ dL dm, m < g.length) (k : ∀ z d g', Q z → (g' = g ∨ ∃ o, g' = g ++ [o]) → RvR r dm g' d z → (bFz b = true → d = z) → (bFz b = false → ∃ o, g' = g ++ [o] ∧ oD o = some z ∧ d = .ref g.length) → P d g') : Ok (biM b ds g) P E := by
  have fresh : ∀ (o : O) (z : D), oD o = some z → RvR true dm (g ++ [o]) (.ref g.length) z := fun o z e => .inr ⟨rfl, _, o, rfl, by simp, fun q => by have := hd _ q; omega, e⟩
  rcases one_rd h with ⟨x, rfl⟩ | ⟨i, j, rfl⟩
  · match ds, a with
    | [d], a =>
      have a := a.1
      have go : ∀ z, Q z → bFz b = true → P z g := fun z hz hb => k z z g hz (.inl rfl) (.inl rfl) (fun _ => rfl) (fun q => by rw [hb] at q; cases q)
      have go' : ∀ (z : D) (o : O), Q z → oD o = some z → bFz b = false → P (.ref g.length) (g ++ [o]) := fun z o hz ho hb => by
        rw [hb, Bool.false_or] at hr
        subst hr
        exact k z _ _ hz (.inr ⟨o, rfl⟩) (fresh o z ho) (fun q => by rw [hb] at q; cases q) (fun _ => ⟨o, rfl, ho, rfl⟩)
      cases b with
      | len =>
        have h : lenO Q x := h
        rw [b_len, a.rd (lenO_nref h)]
        exact lenO_mono h fun z hz => go z hz rfl
      | tuple =>
        have h : seqO _ x := h
        rw [b_tup, a.rd (seqO_nref h)]
        exact seqO_mono h fun z hz => go _ hz rfl
      | list fz =>
        have h : lsdO _ x := h
        cases fz with
        | true =>
          rw [b_lstT, a.rd (lsdO_nref h)]
          exact lsdO_mono h fun z hz => go _ hz rfl
        | false =>
          rw [b_lstF, a.rd (lsdO_nref h)]
          exact lsdO_mono h fun z hz => go' _ _ hz rfl rfl
      | min2 => cases x <;> exact h.elim
      | max2 => cases x <;> exact h.elim
      | abs =>
        cases x <;> first | exact h.elim | skip
        have e := a.flat fun o q => by cases o <;> cases q
        subst e
        rw [b_abs]
        exact go _ h rfl
      | all =>
        have h : lstO _ x := h
        rw [b_all, a.rd (lstO_nref h)]
        exact lstO_mono h fun z hz => OO_mono hz fun w hw => go _ hw rfl
      | any =>
        have h : lstO _ x := h
        rw [b_any, a.rd (lstO_nref h)]
        exact lstO_mono h fun z hz => OO_mono hz fun w hw => go _ hw rfl
      | sum =>
        have h : lstO _ x := h
        rw [b_sum, a.rd (lstO_nref h)]
        exact lstO_mono h fun z hz => OO_mono hz fun w hw => go _ hw rfl
      | sortI fz =>
        have h : lstO _ x := h
        cases fz with
        | true =>
          rw [b_sort, a.rd (lstO_nref h)]
          exact lstO_mono h fun z hz => OO_mono hz fun w hw => ⟨hw.1, go _ hw.2 rfl⟩
        | false =>
          show Ok (match rd g d with
            | .lst xs => match intsOf xs with
              | some bs => sortM false bs g
              | none => .bad
            | _ => .bad) P E
          rw [a.rd (lstO_nref h)]
          cases x <;> first | exact h.elim | skip
          rename_i xs
          obtain ⟨ns, e, h1, h2⟩ := OO_get h
          simp only [e]
          unfold sortM
          rw [if_pos h1]
          unfold mkL alloc
          rw [Ok_ok]
          exact go' _ _ h2 rfl rfl
      | strI =>
        cases x <;> first | exact h.elim | skip
        have e := a.flat fun o q => by cases o <;> cases q
        subst e
        rw [b_str]
        exact ⟨h.1, go _ h.2 rfl⟩
      | dict fz =>
        have h1 : dicO (fun ks vs => Q (.dct ks vs)) x := h
        cases fz with
        | true =>
          rw [b_dictT, a.rd (dicO_nref h1)]
          exact dicO_mono h1 fun _ _ hz => go _ hz rfl
        | false =>
          rw [b_dictF, a.rd (dicO_nref h1)]
          exact dicO_mono h1 fun _ _ hz => go' _ _ hz rfl rfl
    | [], a => exact a.elim
    | _ :: _ :: _, a => exact a.2.elim
  · match ds, a with
    | [d1, d2], a =>
      have e1 : d1 = .int i := a.1.flat fun o q => by cases o <;> cases q
      have e2 : d2 = .int j := a.2.1.flat fun o q => by cases o <;> cases q
      subst e1 e2
      have go : ∀ z, Q z → bFz b = true → P z g := fun z hz hb => k z z g hz (.inl rfl) (.inl rfl) (fun _ => rfl) (fun q => by rw [hb] at q; cases q)
      cases b <;> first | exact h.elim | skip
      · rw [b_min]; exact go _ h rfl
      · rw [b_max]; exact go _ h rfl
    | [], a => exact a.elim
    | [_], a => exact a.2.elim
    | _ :: _ :: _ :: _, a => exact a.2.2.elim
theorem mt_ok {m : Mt} {v : D} {ds : List D} {Q : D → Prop} (h : mtV m v ds Q) : mtOk m v = true ∧ nref v := by
  unfold mtV at h
  split at h <;> first | exact h.elim | exact ⟨rfl, fun k z => by cases z⟩
theorem mt_rd {m : Mt} {d v : D} {ds : List D} {Q : D → Prop} {P : D → G → Prop} {E : Exn → G → Prop} (h : mtV m v ds Q) (a : RvR r dm g d v) (k : ∀ z, Q z → P z g) : Ok (mtM m d ds g) P E := by
  have e := a.rd (mt_ok h).2
  unfold mtV at h
  split at h <;> first | exact h.elim | skip
  · rw [a_get, e]
    exact OO_mono h fun q hq => ⟨hq.1, k _ hq.2⟩
  · rw [a_get2, e]
    exact OO_mono h fun q hq => ⟨hq.1, k _ hq.2⟩
  · have e' := a.flat fun o q => by cases o <;> cases q
    subst e'
    rw [a_join]
    exact OO_mono h fun q hq => ⟨hq.1, k _ hq.2⟩
  · have e' := a.flat fun o q => by cases o <;> cases q
    subst e'
    rw [a_splitT]
    exact ⟨h.1, k _ h.2⟩
  · have e' := a.flat fun o q => by cases o <;> cases q
    subst e'
    rw [a_upper]
    exact ⟨h.1, k _ h.2⟩
  · rw [a_cnt, e]
    exact OO_mono h fun q hq => k _ hq
end
end DL

set_option Elab.async false
set_option linter.all false
set_option maxRecDepth 100000
set_option maxHeartbeats 4000000
/-! the value layer: expressions -/
namespace DL
open PySem PySem.Spec L2

def Pq (dm : Option Nat) (g : G) (r : Bool) (Q : PD) : D → G → Prop := fun d g' => ∃ c' v, DX dm c' g' ∧ Keep (dL dm) g g' ∧ RvR r dm g' d v ∧ Q v c'
def Pqs (dm : Option Nat) (g : G) (r : Bool) (Q : List D → Nat → Prop) : List D → G → Prop := fun ds g' => ∃ c' vs, DX dm c' g' ∧ Keep (dL dm) g g' ∧ RvRs r dm g' ds vs ∧ Q vs c'
def Pqa {α : Type} (dm : Option Nat) (g : G) (Q : α → Nat → Prop) : α → G → Prop := fun a g' => ∃ c', DX dm c' g' ∧ Keep (dL dm) g g' ∧ Q a c'
def Px (dm : Option Nat) (g : G) (X : PX) : Exn → G → Prop := fun e g' => ∃ c', DX dm c' g' ∧ Keep (dL dm) g g' ∧ X e c'
def SpsOk (T : Tb) (dm : Option Nat) (S : Sps) : Prop := ∀ f r w, S f = .spec r w → ∀ k, r ≤ k → ∀ ds c Q X, w ds c Q X → VC T k dm f ds c Q X
section
variable {dm : Option Nat} {g g1 g' : G} {r : Bool}
theorem Px.tr (K : Keep (dL dm) g g1) {X : PX} : ∀ e g', Px dm g1 X e g' → Px dm g X e g' := fun e g' ⟨c, a, b, q⟩ => ⟨c, a, K.trans b, q⟩
theorem Pq.tr (K : Keep (dL dm) g g1) {Q : PD} : ∀ d g', Pq dm g1 r Q d g' → Pq dm g r Q d g' := fun e g' ⟨c, v, a, b, q⟩ => ⟨c, v, a, K.trans b, q⟩
theorem Pqs.tr (K : Keep (dL dm) g g1) {Q : List D → Nat → Prop} : ∀ d g', Pqs dm g1 r Q d g' → Pqs dm g r Q d g' := fun e g' ⟨c, v, a, b, q⟩ => ⟨c, v, a, K.trans b, q⟩
theorem Pqa.tr {α : Type} (K : Keep (dL dm) g g1) {Q : α → Nat → Prop} : ∀ d g', Pqa dm g1 Q d g' → Pqa dm g Q d g' := fun e g' ⟨c, a, b, q⟩ => ⟨c, a, K.trans b, q⟩
theorem Ok.seq {α : Type} {r : R α} {P P' : α → G → Prop} {E : Exn → G → Prop} (h : Ok r P E) (k : ∀ a g, P a g → P' a g) : Ok r P' E := h.mono k fun _ _ z => z
/-- a value that is one -/
theorem Pq.here {c : Nat} {v : D} {Q : PD} (hD : DX dm c g) (q : Q v c) : Pq dm g r Q v g := ⟨c, v, hD, .rfl', .inl rfl, q⟩
theorem Pq.at {c : Nat} {v : D} {Q : PD} (hD : DX dm c g1) (K : Keep (dL dm) g g1) (q : Q v c) : Pq dm g r Q v g1 := ⟨c, v, hD, K, .inl rfl, q⟩
theorem DX.keep0 {c : Nat} (h : DX dm c g) (k : Keep [] g g') : DX dm c g' := h.keepN k fun _ _ z => by cases z
end
theorem vcall {T : Tb} {n : Nat} {dm : Option Nat} {S : Sps} (SO : SpsOk T dm S) {f : Str} {ds : List D} {c : Nat} {Q : PD} {X : PX} {r : Bool} {g : G} (h : VCall T n dm S f ds c Q X) (hD : DX dm c g) : Ok ((cfN T n).call f ds g) (Pq dm g r Q) (Px dm g X) := by
  have goes : VC T n dm f ds c Q X → Ok ((cfN T n).call f ds g) (Pq dm g r Q) (Px dm g X) := fun h => (h g hD).mono (fun d g' ⟨c', a, b, q⟩ => ⟨c', d, a, b, .inl rfl, q⟩) fun e g' ⟨c', a, b, q⟩ => ⟨c', a, b, q⟩
  unfold VCall at h
  split at h
  · unfold PCall at h
    rcases h with ⟨d, p, q⟩ | ⟨e, p, q⟩
    · exact (p g).mono (fun d' g' ⟨k, e⟩ => by subst e; exact ⟨c, d', hD.keep0 k, k.of_nil, .inl rfl, q⟩) fun _ _ z => z.elim
    · exact (p g).mono (fun _ _ z => z.elim) fun e' g' ⟨k, e⟩ => by subst e; exact ⟨c, hD.keep0 k, k.of_nil, q⟩
  · exact goes h
  · rename_i r w e
    exact goes (SO f r w e n h.1 ds c Q X h.2)
theorem non_t (d : D) : (match d with | .non => true | _ => false) = nonB d := by cases d <;> rfl
theorem non_f (d : D) : (match d with | .non => false | _ => true) = !nonB d := by cases d <;> rfl
theorem non_eq {r : Bool} {dm : Option Nat} {g : G} {d v : D} (h : RvR r dm g d v) : nonB d = nonB v := by
  rcases h with rfl | ⟨_, k, o, rfl, _, _, q⟩
  · rfl
  · cases o <;> cases q <;> rfl
theorem intV_get {d : D} {Q : Int → Prop} (h : intV d Q) : ∃ i, d = .int i ∧ Q i := by
  cases d <;> first | exact h.elim | exact ⟨_, rfl, h⟩
theorem wLC_ok {body : D → M (Option D)} {bw : D → Nat → (Option D → Nat → Prop) → Prop} {dm : Option Nat} {g1 : G} {ds : List D} {Q : List D → Nat → Prop} {m : Nat} (hm : m = g1.length) (hdm : m ∉ dL dm) (hF : ds.length ≤ sizeLine)
    (hb : ∀ d ∈ ds, ∀ c K g, bw d c K → DX dm c g → Keep (dL dm) g1 g → Ok (body d g) (Pqa dm g K) Never) {c : Nat} {g : G} (hD : DX dm c g) (hK : Keep (dL dm) g1 g) (hg : g[m]? = some (.lst [])) (h : wLC bw ds [] c Q) {k : Nat} (hk : k = ds.length) {P : Unit → G → Prop} {E : Exn → G → Prop}
    (fin : ∀ xs c g', g'[m]? = some (.lst xs) → DX dm c g' → Keep (dL dm) g1 g' → Q xs c → P () g') : Ok (loopC (.fix ds) m body k 0 g) P E := by
  refine lc_ok0 (fun i xs g => xs.length ≤ i ∧ ∃ c, DX dm c g ∧ Keep (dL dm) g1 g ∧ wLC bw (ds.drop i) xs c Q) ?_ ?_ k 0 [] g (by omega) hg ⟨Nat.le_refl _, c, hD, hK, h⟩
  · intro i d xs g hd hg ⟨hl, c, hD, hK, h⟩
    have hi : i < ds.length := (List.getElem?_eq_some_iff.mp hd).1
    have e : ds.drop i = d :: ds.drop (i + 1) := by
      rw [List.drop_eq_getElem_cons hi]
      congr 1
      exact (List.getElem?_eq_some_iff.mp hd).2
    rw [e] at h
    have h : bw d c _ := h
    refine (hb d (List.mem_of_getElem? hd) c _ g h hD hK).mono (fun o g' ⟨c', a, b, q⟩ => ?_) fun _ _ z => z
    have hg' := b.at hg hdm
    refine ⟨hg', ?_⟩
    cases o with
    | none => exact ⟨by omega, c', a, hK.trans b, q⟩
    | some y =>
      refine ⟨?_, by rw [List.length_append]; simp; omega, c', a.set hdm, (hK.trans b).setIn (.inr (by omega)), q⟩
      show xs.length + 1 ≤ sizeLine
      omega
  · intro xs g hg ⟨hl, c, hD, hK, h⟩
    rw [List.drop_length] at h
    exact fin xs c g hg hD hK h
section
variable {T : Tb} {n : Nat} {dm : Option Nat} {S : Sps}
mutual
theorem vT : ∀ (t : Tg) (d : D) (ρ : VE) (K : VE → Prop), wT t d ρ K → ∀ (g0 g : G) (ρh : Env'), Re dm g0 g ρ ρh → ∀ {E : Exn → G → Prop}, Ok (asgT (cfN T n) t d ρh g) (fun ρh' g' => g' = g ∧ ∃ ρ', Re dm g0 g ρ' ρh' ∧ K ρ') E
  | .v i, d, ρ, K, h, g0, g, ρh, R, E => by
    rw [w_T_v] at h
    rw [o_tg]
    exact ⟨rfl, _, R.setV i d, h⟩
  | .tup ts, d, ρ, K, h, g0, g, ρh, R, E => by
    rw [w_T_tup] at h
    obtain ⟨ds, e, hl, h⟩ := OO_get h
    have : rd g d = d := rd_nref (by rintro k rfl; cases e)
    rw [o_tgT, this]
    exact OO_of e ⟨hl, vTs ts ds ρ K h g0 g ρh R⟩
  | .ix a b, d, ρ, K, h, g0, g, ρh, R, E => by
    have e : wT (.ix a b) d ρ K = False := by with_unfolding_all rfl
    rw [e] at h; exact h.elim
  | .fld a b, d, ρ, K, h, g0, g, ρh, R, E => by
    have e : wT (.fld a b) d ρ K = False := by with_unfolding_all rfl
    rw [e] at h; exact h.elim
theorem vTs : ∀ (ts : Tgs) (ds : List D) (ρ : VE) (K : VE → Prop), wTs ts ds ρ K → ∀ (g0 g : G) (ρh : Env'), Re dm g0 g ρ ρh → ∀ {E : Exn → G → Prop}, Ok (asgTs (cfN T n) ts ds ρh g) (fun ρh' g' => g' = g ∧ ∃ ρ', Re dm g0 g ρ' ρh' ∧ K ρ') E
  | .nil, [], ρ, K, h, g0, g, ρh, R, E => by
    rw [w_Ts_nil] at h
    rw [o_tgn]
    exact ⟨rfl, _, R, h⟩
  | .cons t ts, d :: ds, ρ, K, h, g0, g, ρh, R, E => by
    rw [w_Ts_cons] at h
    rw [o_tgc]
    refine (vT t d ρ _ h g0 g ρh R).seq fun ρh' g' ⟨e, ρ', R', h'⟩ => ?_
    subst e
    exact vTs ts ds ρ' K h' g0 g' ρh' R'
  | .nil, d :: ds, ρ, K, h, g0, g, ρh, R, E => by
    have e : wTs .nil (d :: ds) ρ K = False := by with_unfolding_all rfl
    rw [e] at h; exact h.elim
  | .cons t ts, [], ρ, K, h, g0, g, ρh, R, E => by
    have e : wTs (.cons t ts) [] ρ K = False := by with_unfolding_all rfl
    rw [e] at h; exact h.elim
end

theorem Re.dmg {dm : Option Nat} {g0 g : G} {ρ : VE} {ρh : Env'} (R : Re dm g0 g ρ ρh) : ∀ m ∈ dL dm, m < g.length := fun m hm => Nat.lt_of_lt_of_le (R.dm m hm) R.kp.1
theorem seqV_of {g : G} {v : D} {Q : List D → Prop} {P : It0 → G → Prop} {E : Exn → G → Prop} (h : seqV v Q) (k : ∀ xs, Q xs → P (.fix (enumD xs)) g) : (match v with
    | .lst ds => P (.fix (enumD ds)) g
    | .tup ds => P (.fix (enumD ds)) g
    | _ => False) := by
  cases v <;> first | exact h.elim | exact k _ h
theorem itV_of {g : G} {v : D} {Q : List D → Prop} {P : It0 → Prop} (h : itV v Q) (k : ∀ xs, Q xs → P (.fix xs)) : OO (itOf g v) P := by
  cases v <;> first | exact h.elim | skip
  · rw [n_str, OO_some]; exact k _ h
  · rw [n_tup, OO_some]; exact k _ h
  · rw [n_lst, OO_some]; exact k _ h
  · rw [n_dct]; exact ⟨h.1, k _ h.2⟩
def PI_ (dm : Option Nat) (g : G) (Q : List D → Nat → Prop) : It0 → G → Prop := fun i g' => ∃ c' ds, i = .fix ds ∧ DX dm c' g' ∧ Keep (dL dm) g g' ∧ Q ds c'
theorem PI_.tr {dm : Option Nat} {g g1 : G} (K : Keep (dL dm) g g1) {Q : List D → Nat → Prop} : ∀ d g', PI_ dm g1 Q d g' → PI_ dm g Q d g' := fun e g' ⟨c, v, e', a, b, q⟩ => ⟨c, v, e', a, K.trans b, q⟩
mutual
theorem vE (SO : SpsOk T dm S) : ∀ (e : E) (r : Bool) (ρ : VE) (c : Nat) (Q : PD) (X : PX), wE T n dm S e r ρ c Q X → ∀ (g0 g : G) (ρh : Env'), DX dm c g → Re dm g0 g ρ ρh → Ok (evE (cfN T n) e ρh g) (Pq dm g r Q) (Px dm g X)
  | .v i, r, ρ, c, Q, X, h, g0, g, ρh, hD, R => by
    rw [w_E_v] at h
    rw [o_v]
    obtain ⟨d, e, q⟩ := OO_get h
    cases r with
    | false => exact OO_of (R.val e) (.here hD q)
    | true =>
      obtain ⟨d', e', rr⟩ := R.rdv e
      exact OO_of e' ⟨c, d, hD, .rfl', rr, q⟩
  | .non, r, ρ, c, Q, X, h, g0, g, ρh, hD, R => by
    rw [w_E_non] at h; rw [o_non]; exact .here hD h
  | .bl b, r, ρ, c, Q, X, h, g0, g, ρh, hD, R => by
    rw [w_E_bl] at h; rw [o_bl]; exact .here hD h
  | .int b, r, ρ, c, Q, X, h, g0, g, ρh, hD, R => by
    rw [w_E_int] at h; rw [o_int]; exact .here hD h
  | .str b, r, ρ, c, Q, X, h, g0, g, ρh, hD, R => by
    rw [w_E_str] at h; rw [o_str]; exact .here hD h
  | .gl x, r, ρ, c, Q, X, h, g0, g, ρh, hD, R => by
    rw [w_E_gl] at h; rw [o_gl]; exact OO_mono h fun d q => .here hD q
  | .tup es, r, ρ, c, Q, X, h, g0, g, ρh, hD, R => by
    rw [w_E_tup] at h; rw [o_tup]
    refine (vEs SO es false ρ c _ X h g0 g ρh hD R).seq fun ds g1 ⟨c1, vs, D1, K1, R1, h1⟩ => ?_
    have e := R1.eq
    subst e
    exact ⟨h1.1, .at D1 K1 h1.2⟩
  | .lst fz es, r, ρ, c, Q, X, h, g0, g, ρh, hD, R => by
    rw [w_E_lst] at h
    obtain ⟨hf, h⟩ := h
    have h := vEs SO es false ρ c _ X h g0 g ρh hD R
    cases fz with
    | true =>
      rw [o_lstT]
      refine h.seq fun ds g1 ⟨c1, vs, D1, K1, R1, h1⟩ => ?_
      have e := R1.eq
      subst e
      exact ⟨h1.1, .at D1 K1 h1.2⟩
    | false =>
      rw [Bool.false_or] at hf
      subst hf
      rw [o_lstF]
      refine h.seq fun ds g1 ⟨c1, vs, D1, K1, R1, h1⟩ => ?_
      have e := R1.eq
      subst e
      have R1' := R.keep K1
      exact ⟨h1.1, c1, .lst ds, D1.app, K1.appIn, .inr ⟨rfl, _, _, rfl, q_last, (fun z => by have := R1'.dmg _ z; omega), rfl⟩, h1.2⟩
  | .dct fz ps, r, ρ, c, Q, X, h, g0, g, ρh, hD, R => by
    rw [w_E_dct] at h
    obtain ⟨hf, h⟩ := h
    rw [o_dct]
    have K0 : Keep (dL dm) g (g ++ [O.dct [] []]) := .app
    refine (vPs SO ps ρ c _ X h g0 (g ++ [.dct [] []]) ρh hD.app (R.keep K0)).mono (fun qs g1 z => ?_) (Px.tr K0)
    obtain ⟨c1, D1, K1, h1⟩ := z
    refine ⟨h1.1, ?_⟩
    obtain ⟨rr, e, q⟩ := OO_get h1.2
    have hl := R.dmg
    have e0 : g1[g.length]? = some (O.dct [] []) := K1.at q_last (fun z => by have := hl _ z; omega)
    have hn : g.length ∉ dL dm := fun z => by have := hl _ z; omega
    have KK : ∀ o, Keep (dL dm) g (g1.set g.length o) := fun o => (K0.trans K1).setIn (.inr (Nat.le_refl _))
    unfold setDctM
    simp only [e0, e]
    cases fz with
    | true =>
      simp only
      rw [Ok_ok]
      exact .at (D1.set hn) (KK _) q
    | false =>
      rw [Bool.false_or] at hf
      subst hf
      simp only
      rw [Ok_ok]
      exact ⟨c1, _, D1.set hn, KK _, .inr ⟨rfl, _, _, rfl, set_self e0, hn, rfl⟩, q⟩
  | .bin op a b, r, ρ, c, Q, X, h, g0, g, ρh, hD, R => by
    rw [w_E_bin] at h; rw [o_bin]
    refine (vE SO a true ρ c _ X h g0 g ρh hD R).seq fun x g1 ⟨c1, v1, D1, K1, R1, h1⟩ => ?_
    refine (vE SO b true ρ c1 _ X h1 g0 g1 ρh D1 (R.keep K1)).mono (fun y g2 ⟨c2, v2, D2, K2, R2, h2⟩ => ?_) (Px.tr K1)
    obtain ⟨z, e, q⟩ := OO_get h2
    exact OO_of (op2_rd e (R1.keep K2) R2) (.at D2 (K1.trans K2) q)
  | .neg a, r, ρ, c, Q, X, h, g0, g, ρh, hD, R => by
    rw [w_E_neg] at h; rw [o_neg]
    refine (vE SO a false ρ c _ X h g0 g ρh hD R).seq fun x g1 ⟨c1, v1, D1, K1, R1, h1⟩ => ?_
    have e := R1.eq
    subst e
    obtain ⟨i, e, q⟩ := intV_get h1
    subst e
    exact .at D1 K1 q
  | .not a, r, ρ, c, Q, X, h, g0, g, ρh, hD, R => by
    rw [w_E_not] at h; rw [o_not]
    refine (vE SO a true ρ c _ X h g0 g ρh hD R).seq fun x g1 ⟨c1, v1, D1, K1, R1, h1⟩ => ?_
    obtain ⟨z, e, q⟩ := OO_get h1
    exact OO_of (truD_rd e R1) (.at D1 K1 q)
  | .and es, r, ρ, c, Q, X, h, g0, g, ρh, hD, R => by
    rw [w_E_and] at h; rw [o_and]
    exact vAnd SO es r ρ c Q X h g0 g ρh hD R
  | .or es, r, ρ, c, Q, X, h, g0, g, ρh, hD, R => by
    rw [w_E_or] at h; rw [o_or]
    exact vOr SO es r ρ c Q X h g0 g ρh hD R
  | .cmp op a b, r, ρ, c, Q, X, h, g0, g, ρh, hD, R => by
    rw [w_E_cmp] at h; rw [o_cmp]
    refine (vE SO a true ρ c _ X h g0 g ρh hD R).seq fun x g1 ⟨c1, v1, D1, K1, R1, h1⟩ => ?_
    refine (vE SO b true ρ c1 _ X h1 g0 g1 ρh D1 (R.keep K1)).mono (fun y g2 ⟨c2, v2, D2, K2, R2, h2⟩ => ?_) (Px.tr K1)
    obtain ⟨z, e, q⟩ := OO_get h2
    exact OO_of (cmp_rd e (R1.keep K2) R2) (.at D2 (K1.trans K2) q)
  | .cmp2 op op' a b e, r, ρ, c, Q, X, h, g0, g, ρh, hD, R => by
    rw [w_E_cmp2] at h; rw [o_cmp2]
    refine (vE SO a true ρ c _ X h g0 g ρh hD R).seq fun x g1 ⟨c1, v1, D1, K1, R1, h1⟩ => ?_
    refine (vE SO b true ρ c1 _ X h1 g0 g1 ρh D1 (R.keep K1)).mono (fun y g2 ⟨c2, v2, D2, K2, R2, h2⟩ => ?_) (Px.tr K1)
    obtain ⟨z, ez, q⟩ := OO_get h2
    refine OO_of (cmp_rd ez (R1.keep K2) R2) ?_
    have K12 := K1.trans K2
    cases z with
    | false => exact .at D2 K12 q
    | true =>
      refine (vE SO e true ρ c2 _ X q g0 g2 ρh D2 (R.keep K12)).mono (fun w g3 ⟨c3, v3, D3, K3, R3, h3⟩ => ?_) (Px.tr K12)
      obtain ⟨z, ez, q⟩ := OO_get h3
      exact OO_of (cmp_rd ez (R2.keep K3) R3) (.at D3 (K12.trans K3) q)
  | .isn a, r, ρ, c, Q, X, h, g0, g, ρh, hD, R => by
    rw [w_E_isn] at h; rw [o_isn]
    refine (vE SO a true ρ c _ X h g0 g ρh hD R).seq fun x g1 ⟨c1, v1, D1, K1, R1, h1⟩ => ?_
    have hh : Pq dm g r Q (.bl (nonB x)) g1 := by rw [non_eq R1]; exact .at D1 K1 h1
    cases x <;> exact hh
  | .notn a, r, ρ, c, Q, X, h, g0, g, ρh, hD, R => by
    rw [w_E_notn] at h; rw [o_notn]
    refine (vE SO a true ρ c _ X h g0 g ρh hD R).seq fun x g1 ⟨c1, v1, D1, K1, R1, h1⟩ => ?_
    have hh : Pq dm g r Q (.bl (!nonB x)) g1 := by rw [non_eq R1]; exact .at D1 K1 h1
    cases x <;> exact hh
  | .ite e a b, r, ρ, c, Q, X, h, g0, g, ρh, hD, R => by
    rw [w_E_ite] at h; rw [o_ite]
    refine (vE SO e true ρ c _ X h g0 g ρh hD R).seq fun x g1 ⟨c1, v1, D1, K1, R1, h1⟩ => ?_
    obtain ⟨z, ez, q⟩ := OO_get h1
    refine OO_of (truD_rd ez R1) ?_
    cases z with
    | true => exact (vE SO a r ρ c1 _ X q g0 g1 ρh D1 (R.keep K1)).mono (Pq.tr K1) (Px.tr K1)
    | false => exact (vE SO b r ρ c1 _ X q g0 g1 ρh D1 (R.keep K1)).mono (Pq.tr K1) (Px.tr K1)
  | .ix a b, r, ρ, c, Q, X, h, g0, g, ρh, hD, R => by
    rw [w_E_ix] at h; rw [o_ix]
    refine (vE SO a true ρ c _ X h g0 g ρh hD R).seq fun x g1 ⟨c1, v1, D1, K1, R1, h1⟩ => ?_
    refine (vE SO b true ρ c1 _ X h1 g0 g1 ρh D1 (R.keep K1)).mono (fun y g2 ⟨c2, v2, D2, K2, R2, h2⟩ => ?_) (Px.tr K1)
    obtain ⟨z, e, q⟩ := OO_get h2
    exact OO_of (ix_rd e (R1.keep K2) R2) (.at D2 (K1.trans K2) q)
  | .sl a lo hi, r, ρ, c, Q, X, h, g0, g, ρh, hD, R => by
    rw [w_E_sl] at h; rw [o_sl]
    refine (vE SO a true ρ c _ X h g0 g ρh hD R).seq fun x g1 ⟨c1, v1, D1, K1, R1, h1⟩ => ?_
    refine (vPart SO lo ρ c1 _ X h1 g0 g1 ρh D1 (R.keep K1)).mono (fun l g2 ⟨c2, D2, K2, h2⟩ => ?_) (Px.tr K1)
    have K12 := K1.trans K2
    refine (vPart SO hi ρ c2 _ X h2 g0 g2 ρh D2 (R.keep K12)).mono (fun l g3 ⟨c3, D3, K3, h3⟩ => ?_) (Px.tr K12)
    obtain ⟨z, e, q⟩ := OO_get h3
    exact OO_of (sl_rd e (R1.keep (K2.trans K3))) (.at D3 (K12.trans K3) q)
  | .fld a f, r, ρ, c, Q, X, h, g0, g, ρh, hD, R => by
    rw [w_E_fld] at h; rw [o_fld]
    refine (vE SO a true ρ c _ X h g0 g ρh hD R).seq fun x g1 ⟨c1, v1, D1, K1, R1, h1⟩ => ?_
    exact fld_rd h1 R1 fun z q => .at D1 K1 q
  | .call f es, r, ρ, c, Q, X, h, g0, g, ρh, hD, R => by
    rw [w_E_call] at h; rw [o_call]
    refine (vEs SO es false ρ c _ X h g0 g ρh hD R).seq fun ds g1 ⟨c1, vs, D1, K1, R1, h1⟩ => ?_
    have e := R1.eq
    subst e
    exact (vcall SO h1 D1).mono (Pq.tr K1) (Px.tr K1)
  | .callv i es, r, ρ, c, Q, X, h, g0, g, ρh, hD, R => by
    rw [w_E_callv] at h; rw [o_callv]
    obtain ⟨f, e, h⟩ := OO_get h
    refine OO_of (R.val e) ?_
    cases f <;> first | exact h.elim | skip
    obtain ⟨hk, h⟩ := h
    refine ⟨hk, (vEs SO es false ρ c _ X h g0 g ρh hD R).seq fun ds g1 ⟨c1, vs, D1, K1, R1, h1⟩ => ?_⟩
    have e := R1.eq
    subst e
    exact (vcall SO h1 D1).mono (Pq.tr K1) (Px.tr K1)
  | .mk true C es, r, ρ, c, Q, X, h, g0, g, ρh, hD, R => by
    rw [w_E_mk] at h; rw [o_mk]
    refine (vEs SO es false ρ c _ X h g0 g ρh hD R).seq fun ds g1 ⟨c1, vs, D1, K1, R1, h1⟩ => ?_
    have e := R1.eq
    subst e
    refine OO_mono h1 fun key ⟨hk, hm⟩ => ⟨hk, ?_⟩
    unfold PMk at hm
    rcases hm with ⟨d, p, q⟩ | ⟨e, p, q⟩
    · refine (p g1).mono (fun rr g2 h => ?_) fun _ _ z => z.elim
      cases rr <;> first | exact h.elim | skip
      exact h.mono (fun d' g3 ⟨k, e⟩ => by subst e; exact .at (D1.keep0 k) (K1.trans k.of_nil) q) fun _ _ z => z.elim
    · refine (p g1).mono (fun rr g2 h => ?_) fun e' g3 ⟨k, e⟩ => by subst e; exact ⟨c1, D1.keep0 k, K1.trans k.of_nil, q⟩
      cases rr <;> first | exact h.elim | skip
      exact h.mono (fun _ _ z => z.elim) fun e' g3 ⟨k, e⟩ => by subst e; exact ⟨c1, D1.keep0 k, K1.trans k.of_nil, q⟩
  | .mk false C es, r, ρ, c, Q, X, h, g0, g, ρh, hD, R => by
    have e : wE T n dm S (.mk false C es) r ρ c Q X = False := by with_unfolding_all rfl
    rw [e] at h; exact h.elim
  | .own m o es, r, ρ, c, Q, X, h, g0, g, ρh, hD, R => by
    rw [w_E_own] at h; rw [o_own]
    refine (vE SO o false ρ c _ X h g0 g ρh hD R).seq fun x g1 ⟨c1, v1, D1, K1, R1, h1⟩ => ?_
    have e := R1.eq
    subst e
    obtain ⟨p, e, h1⟩ := OO_get h1
    refine OO_of (cls_rd e) (OO_mono h1 fun key ⟨hk, hm⟩ => ⟨hk, ?_⟩)
    refine (vEs SO es false ρ c1 _ X hm g0 g1 ρh D1 (R.keep K1)).mono (fun ds g2 ⟨c2, vs, D2, K2, R2, h2⟩ => ?_) (Px.tr K1)
    have e := R2.eq
    subst e
    have K12 := K1.trans K2
    exact (vcall SO h2 D2).mono (Pq.tr K12) (Px.tr K12)
  | .isc a cs many, r, ρ, c, Q, X, h, g0, g, ρh, hD, R => by
    rw [w_E_isc] at h; rw [o_isc]
    refine (vE SO a false ρ c _ X h g0 g ρh hD R).seq fun x g1 ⟨c1, v1, D1, K1, R1, h1⟩ => ?_
    have e := R1.eq
    subst e
    obtain ⟨z, e, q⟩ := OO_get h1
    exact OO_of (isc_rd e) (.at D1 K1 q)
  | .slen a, r, ρ, c, Q, X, h, g0, g, ρh, hD, R => by
    rw [w_E_slen] at h; rw [o_slen]
    refine (vE SO a false ρ c _ X h g0 g ρh hD R).seq fun x g1 ⟨c1, v1, D1, K1, R1, h1⟩ => ?_
    have e := R1.eq
    subst e
    cases x <;> first | exact h1.elim | skip
    obtain ⟨ks, e, hl, q⟩ := OO_get h1
    rw [b_slen e hl]
    exact .at D1 K1 q
  | .bi b es, r, ρ, c, Q, X, h, g0, g, ρh, hD, R => by
    rw [w_E_bi] at h; rw [o_bi]
    obtain ⟨hf, h⟩ := h
    refine (vEs SO es true ρ c _ X h g0 g ρh hD R).seq fun ds g1 ⟨c1, vs, D1, K1, R1, h1⟩ => ?_
    refine bi_rd (r := r || true) h1 (by simp) (by simpa using R1) (R.keep K1).dmg fun z d g' q hg' hr hb hb' => ?_
    rcases hg' with e | ⟨o, e⟩
    · cases hbf : bFz b with
      | true => rw [hb hbf, e]; exact .at D1 K1 q
      | false =>
        obtain ⟨o, e', _⟩ := hb' hbf
        rw [e] at e'
        have := congrArg List.length e'
        simp at this
    · cases hbf : bFz b with
      | true => rw [hb hbf, e]; exact .at D1.app K1.appIn q
      | false =>
        rw [hbf, Bool.false_or] at hf
        subst hf
        subst e
        exact ⟨c1, z, D1.app, K1.appIn, by simpa using hr, q⟩
  | .mt m o es, r, ρ, c, Q, X, h, g0, g, ρh, hD, R => by
    rw [w_E_mt] at h; rw [o_mt]
    refine (vE SO o true ρ c _ X h g0 g ρh hD R).seq fun x g1 ⟨c1, v1, D1, K1, R1, h1⟩ => ?_
    obtain ⟨hm, h1⟩ := h1
    have nv : nref v1 := by rintro k rfl; cases m <;> cases hm
    refine ⟨by rw [R1.rd nv]; exact hm, ?_⟩
    refine (vEs SO es false ρ c1 _ X h1 g0 g1 ρh D1 (R.keep K1)).mono (fun ds g2 ⟨c2, vs, D2, K2, R2, h2⟩ => ?_) (Px.tr K1)
    have e := R2.eq
    subst e
    exact mt_rd h2 (R1.keep K2) fun z q => .at D2 (K1.trans K2) q
  | .isi a ts many, r, ρ, c, Q, X, h, g0, g, ρh, hD, R => by
    rw [w_E_isi] at h; rw [o_isi]
    refine (vE SO a true ρ c _ X h g0 g ρh hD R).seq fun x g1 ⟨c1, v1, D1, K1, R1, h1⟩ => ?_
    obtain ⟨z, e, q⟩ := OO_get h1
    exact OO_of (isi_rd e R1) (.at D1 K1 q)
  | .lc fz own elt t it ifs, r, ρ, c, Q, X, h, g0, g, ρh, hD, R => by
    rw [w_E_lc] at h; rw [o_lc]
    obtain ⟨hf, h⟩ := h
    refine (vI SO it ρ c _ X h g0 g ρh hD R).seq fun i g1 ⟨c1, ds, e, D1, K1, hF, h1⟩ => ?_
    subst e
    have R1 := R.keep K1
    have hn : g1.length ∉ dL dm := fun z => by have := R1.dmg _ z; omega
    refine wLC_ok (bw := fun d c K => wT t d (wipeV ρ own) fun ρ1 => wIfs T n dm S ifs ρ1 c (fun k c => if k = true then wE T n dm S elt false ρ1 c (fun y c => K (some y) c) (fun _ _ => False) else K none c) (fun _ _ => False)) rfl hn hF ?_ D1.app Keep.app q_last h1 rfl ?_
    · intro d hd c K g2 hw D2 K2
      rw [body_lc]
      have R2 := R1.keep K2
      refine (vT t d (wipeV ρ own) _ hw g0 g2 (wipeE ρh own) (R2.wipe own)).seq fun ρh' g' ⟨e, ρ', R', h'⟩ => ?_
      subst e
      refine (vIfs SO ifs ρ' c _ _ h' g0 g' ρh' D2 R').mono (fun k g3 ⟨c3, D3, K3, h3⟩ => ?_) fun e g3 ⟨_, _, _, z⟩ => z.elim
      cases k with
      | false => exact ⟨c3, D3, K3, h3⟩
      | true =>
        refine (vE SO elt false ρ' c3 _ _ h3 g0 g3 ρh' D3 (R'.keep K3)).mono (fun y g4 ⟨c4, v4, D4, K4, R4, h4⟩ => ?_) fun e g4 ⟨_, _, _, z⟩ => z.elim
        rw [R4.eq]
        exact ⟨c4, D4, K3.trans K4, h4⟩
    · intro xs c' g' hg' D' K' q
      have KK := K1.trans K'
      cases fz with
      | true =>
        rw [endT hg']
        exact .at (D'.set hn) (KK.setIn (.inr K1.1)) q
      | false =>
        rw [Bool.false_or] at hf
        subst hf
        rw [endF]
        exact ⟨c', _, D', KK, .inr ⟨rfl, _, _, rfl, hg', hn, rfl⟩, q⟩
  | .kget o es, r, ρ, c, Q, X, h, g0, g, ρh, hD, R => by
    rw [w_E_kget] at h; rw [o_kget]
    refine (vE SO o false ρ c _ X h g0 g ρh hD R).seq fun x g1 ⟨c1, v1, D1, K1, R1, h1⟩ => ?_
    have e := R1.eq
    subst e
    cases x <;> first | exact h1.elim | skip
    refine OO_mono h1 fun l hl => ?_
    refine (vEs SO es false ρ c1 _ X hl g0 g1 ρh D1 (R.keep K1)).mono (fun ds g2 ⟨c2, vs, D2, K2, R2, h2⟩ => ?_) (Px.tr K1)
    have e := R2.eq
    subst e
    match ds, h2 with
    | [.str z], h2 =>
      rw [k_str1]
      exact .at D2 (K1.trans K2) h2
  | .rev a, r, ρ, c, Q, X, h, g0, g, ρh, hD, R => by
    rw [w_E_rev] at h; rw [o_rev]
    refine (vE SO a false ρ c _ X h g0 g ρh hD R).seq fun x g1 ⟨c1, v1, D1, K1, R1, h1⟩ => ?_
    have e := R1.eq
    subst e
    cases x <;> first | exact h1.elim | skip
    rw [rev_t]
    exact .at D1 K1 h1
  | .deq a b, r, ρ, c, Q, X, h, g0, g, ρh, hD, R => by
    rw [w_E_deq] at h; rw [o_deq]
    refine (vE SO a true ρ c _ X h g0 g ρh hD R).seq fun x g1 ⟨c1, v1, D1, K1, R1, h1⟩ => ?_
    refine (vE SO b true ρ c1 _ X h1 g0 g1 ρh D1 (R.keep K1)).mono (fun y g2 ⟨c2, v2, D2, K2, R2, h2⟩ => ?_) (Px.tr K1)
    obtain ⟨z, e, q⟩ := OO_get h2
    exact OO_of (deq_rd e (R1.keep K2) R2) (.at D2 (K1.trans K2) q)
  | .bad, r, ρ, c, Q, X, h, g0, g, ρh, hD, R => by
    have e : wE T n dm S .bad r ρ c Q X = False := by with_unfolding_all rfl
    rw [e] at h; exact h.elim
  | .rep fz a b, r, ρ, c, Q, X, h, g0, g, ρh, hD, R => by
    have e : wE T n dm S (.rep fz a b) r ρ c Q X = False := by with_unfolding_all rfl
    rw [e] at h; exact h.elim
  | .dc fz own k v t it ifs, r, ρ, c, Q, X, h, g0, g, ρh, hD, R => by
    have e : wE T n dm S (.dc fz own k v t it ifs) r ρ c Q X = False := by with_unfolding_all rfl
    rw [e] at h; exact h.elim
theorem vEs (SO : SpsOk T dm S) : ∀ (es : Es) (r : Bool) (ρ : VE) (c : Nat) (Q : List D → Nat → Prop) (X : PX), wEs T n dm S es r ρ c Q X → ∀ (g0 g : G) (ρh : Env'), DX dm c g → Re dm g0 g ρ ρh → Ok (evEs (cfN T n) es ρh g) (Pqs dm g r Q) (Px dm g X)
  | .nil, r, ρ, c, Q, X, h, g0, g, ρh, hD, R => by
    rw [w_Es_nil] at h; rw [o_nil]; exact ⟨c, [], hD, .rfl', trivial, h⟩
  | .cons e es, r, ρ, c, Q, X, h, g0, g, ρh, hD, R => by
    rw [w_Es_cons] at h; rw [o_cons]
    refine (vE SO e r ρ c _ X h g0 g ρh hD R).seq fun x g1 ⟨c1, v1, D1, K1, R1, h1⟩ => ?_
    exact (vEs SO es r ρ c1 _ X h1 g0 g1 ρh D1 (R.keep K1)).mono (fun ys g2 ⟨c2, v2, D2, K2, R2, h2⟩ => ⟨c2, v1 :: v2, D2, K1.trans K2, ⟨R1.keep K2, R2⟩, h2⟩) (Px.tr K1)
theorem vPs (SO : SpsOk T dm S) : ∀ (ps : Ps) (ρ : VE) (c : Nat) (Q : List (D × D) → Nat → Prop) (X : PX), wPs T n dm S ps ρ c Q X → ∀ (g0 g : G) (ρh : Env'), DX dm c g → Re dm g0 g ρ ρh → Ok (evPs (cfN T n) ps ρh g) (Pqa dm g Q) (Px dm g X)
  | .nil, ρ, c, Q, X, h, g0, g, ρh, hD, R => by
    rw [w_Ps_nil] at h; rw [o_pnil]; exact ⟨c, hD, .rfl', h⟩
  | .cons k v ps, ρ, c, Q, X, h, g0, g, ρh, hD, R => by
    rw [w_Ps_cons] at h; rw [o_pcons]
    refine (vE SO k false ρ c _ X h g0 g ρh hD R).seq fun x g1 ⟨c1, v1, D1, K1, R1, h1⟩ => ?_
    have e := R1.eq
    subst e
    refine (vE SO v false ρ c1 _ X h1 g0 g1 ρh D1 (R.keep K1)).mono (fun y g2 ⟨c2, v2, D2, K2, R2, h2⟩ => ?_) (Px.tr K1)
    have e := R2.eq
    subst e
    have K12 := K1.trans K2
    exact (vPs SO ps ρ c2 _ X h2 g0 g2 ρh D2 (R.keep K12)).mono (fun ys g3 ⟨c3, D3, K3, h3⟩ => ⟨c3, D3, K12.trans K3, h3⟩) (Px.tr K12)
theorem vPart (SO : SpsOk T dm S) : ∀ (es : Es) (ρ : VE) (c : Nat) (Q : Option Int → Nat → Prop) (X : PX), wPart T n dm S es ρ c Q X → ∀ (g0 g : G) (ρh : Env'), DX dm c g → Re dm g0 g ρ ρh → Ok (evPart (cfN T n) es ρh g) (Pqa dm g Q) (Px dm g X)
  | .nil, ρ, c, Q, X, h, g0, g, ρh, hD, R => by
    rw [w_Part_nil] at h; rw [o_part0]; exact ⟨c, hD, .rfl', h⟩
  | .cons e .nil, ρ, c, Q, X, h, g0, g, ρh, hD, R => by
    rw [w_Part_cons] at h; rw [o_part1]
    refine (vE SO e false ρ c _ X h g0 g ρh hD R).seq fun x g1 ⟨c1, v1, D1, K1, R1, h1⟩ => ?_
    have e := R1.eq
    subst e
    obtain ⟨i, e, q⟩ := intV_get h1
    subst e
    exact ⟨c1, D1, K1, q⟩
  | .cons e (.cons e2 es), ρ, c, Q, X, h, g0, g, ρh, hD, R => by
    have e : wPart T n dm S (.cons e (.cons e2 es)) ρ c Q X = False := by with_unfolding_all rfl
    rw [e] at h; exact h.elim
theorem vAnd (SO : SpsOk T dm S) : ∀ (es : Es) (r : Bool) (ρ : VE) (c : Nat) (Q : PD) (X : PX), wAnd T n dm S es r ρ c Q X → ∀ (g0 g : G) (ρh : Env'), DX dm c g → Re dm g0 g ρ ρh → Ok (evAnd (cfN T n) es ρh g) (Pq dm g r Q) (Px dm g X)
  | .nil, r, ρ, c, Q, X, h, g0, g, ρh, hD, R => by
    rw [w_And_nil] at h; exact h.elim
  | .cons e .nil, r, ρ, c, Q, X, h, g0, g, ρh, hD, R => by
    rw [w_And_cons] at h; rw [o_and1]
    exact vE SO e r ρ c Q X h g0 g ρh hD R
  | .cons e (.cons e2 es), r, ρ, c, Q, X, h, g0, g, ρh, hD, R => by
    rw [w_And_cons2] at h; rw [o_and2]
    refine (vE SO e r ρ c _ X h g0 g ρh hD R).seq fun x g1 ⟨c1, v1, D1, K1, R1, h1⟩ => ?_
    obtain ⟨z, ez, q⟩ := OO_get h1
    refine OO_of (truD_rd ez R1) ?_
    cases z with
    | true => exact (vAnd SO (.cons e2 es) r ρ c1 _ X q g0 g1 ρh D1 (R.keep K1)).mono (Pq.tr K1) (Px.tr K1)
    | false => exact ⟨c1, v1, D1, K1, R1, q⟩
theorem vOr (SO : SpsOk T dm S) : ∀ (es : Es) (r : Bool) (ρ : VE) (c : Nat) (Q : PD) (X : PX), wOr T n dm S es r ρ c Q X → ∀ (g0 g : G) (ρh : Env'), DX dm c g → Re dm g0 g ρ ρh → Ok (evOr (cfN T n) es ρh g) (Pq dm g r Q) (Px dm g X)
  | .nil, r, ρ, c, Q, X, h, g0, g, ρh, hD, R => by
    rw [w_Or_nil] at h; exact h.elim
  | .cons e .nil, r, ρ, c, Q, X, h, g0, g, ρh, hD, R => by
    rw [w_Or_cons] at h; rw [o_or1]
    exact vE SO e r ρ c Q X h g0 g ρh hD R
  | .cons e (.cons e2 es), r, ρ, c, Q, X, h, g0, g, ρh, hD, R => by
    rw [w_Or_cons2] at h; rw [o_or2]
    refine (vE SO e r ρ c _ X h g0 g ρh hD R).seq fun x g1 ⟨c1, v1, D1, K1, R1, h1⟩ => ?_
    obtain ⟨z, ez, q⟩ := OO_get h1
    refine OO_of (truD_rd ez R1) ?_
    cases z with
    | false => exact (vOr SO (.cons e2 es) r ρ c1 _ X q g0 g1 ρh D1 (R.keep K1)).mono (Pq.tr K1) (Px.tr K1)
    | true => exact ⟨c1, v1, D1, K1, R1, q⟩
theorem vIfs (SO : SpsOk T dm S) : ∀ (es : Es) (ρ : VE) (c : Nat) (Q : Bool → Nat → Prop) (X : PX), wIfs T n dm S es ρ c Q X → ∀ (g0 g : G) (ρh : Env'), DX dm c g → Re dm g0 g ρ ρh → Ok (evIfs (cfN T n) es ρh g) (Pqa dm g Q) (Px dm g X)
  | .nil, ρ, c, Q, X, h, g0, g, ρh, hD, R => by
    rw [w_Ifs_nil] at h; rw [o_ifs0]; exact ⟨c, hD, .rfl', h⟩
  | .cons e es, ρ, c, Q, X, h, g0, g, ρh, hD, R => by
    rw [w_Ifs_cons] at h
    simp only [evIfs, Ok_bindM, Ok_optM, rdM, Ok_ok]
    refine (vE SO e true ρ c _ X h g0 g ρh hD R).seq fun x g1 ⟨c1, v1, D1, K1, R1, h1⟩ => ?_
    obtain ⟨z, ez, q⟩ := OO_get h1
    refine OO_of (truD_rd ez R1) ?_
    cases z with
    | true => exact (vIfs SO es ρ c1 _ X q g0 g1 ρh D1 (R.keep K1)).mono (Pqa.tr K1) (Px.tr K1)
    | false =>
      show Ok (.ok false g1) _ _
      rw [Ok_ok]
      exact ⟨c1, D1, K1, q⟩
theorem vI (SO : SpsOk T dm S) : ∀ (it : I) (ρ : VE) (c : Nat) (Q : List D → Nat → Prop) (X : PX), wI T n dm S it ρ c Q X → ∀ (g0 g : G) (ρh : Env'), DX dm c g → Re dm g0 g ρ ρh → Ok (evI (cfN T n) it ρh g) (PI_ dm g Q) (Px dm g X)
  | .e a, ρ, c, Q, X, h, g0, g, ρh, hD, R => by
    rw [w_I_e] at h; rw [o_I]
    refine (vE SO a false ρ c _ X h g0 g ρh hD R).seq fun x g1 ⟨c1, v1, D1, K1, R1, h1⟩ => ?_
    have e := R1.eq
    subst e
    exact itV_of h1 fun xs q => ⟨c1, xs, rfl, D1, K1, q⟩
  | .rng1 a, ρ, c, Q, X, h, g0, g, ρh, hD, R => by
    rw [w_I_rng1] at h; rw [o_rng1]
    refine (vE SO a false ρ c _ X h g0 g ρh hD R).seq fun x g1 ⟨c1, v1, D1, K1, R1, h1⟩ => ?_
    have e := R1.eq
    subst e
    obtain ⟨i, e, q1, q2⟩ := intV_get h1
    subst e
    exact ⟨q1, c1, _, rfl, D1, K1, q2⟩
  | .rng2 a b, ρ, c, Q, X, h, g0, g, ρh, hD, R => by
    rw [w_I_rng2] at h; rw [o_rng2]
    refine (vE SO a false ρ c _ X h g0 g ρh hD R).seq fun x g1 ⟨c1, v1, D1, K1, R1, h1⟩ => ?_
    refine (vE SO b false ρ c1 _ X h1 g0 g1 ρh D1 (R.keep K1)).mono (fun y g2 ⟨c2, v2, D2, K2, R2, h2⟩ => ?_) (Px.tr K1)
    have e := R1.eq
    subst e
    have e := R2.eq
    subst e
    obtain ⟨i, e, q⟩ := intV_get h2
    subst e
    obtain ⟨j, e, q1, q2⟩ := intV_get q
    subst e
    exact ⟨q1, c2, _, rfl, D2, K1.trans K2, q2⟩
  | .enum a, ρ, c, Q, X, h, g0, g, ρh, hD, R => by
    rw [w_I_enum] at h; rw [o_enum]
    refine (vE SO a false ρ c _ X h g0 g ρh hD R).seq fun x g1 ⟨c1, v1, D1, K1, R1, h1⟩ => ?_
    have e := R1.eq
    subst e
    cases x <;> first | exact h1.elim | exact ⟨c1, _, rfl, D1, K1, h1⟩
  | .zip a b, ρ, c, Q, X, h, g0, g, ρh, hD, R => by
    rw [w_I_zip] at h; rw [o_zip]
    refine (vE SO a false ρ c _ X h g0 g ρh hD R).seq fun x g1 ⟨c1, v1, D1, K1, R1, h1⟩ => ?_
    refine (vE SO b false ρ c1 _ X h1 g0 g1 ρh D1 (R.keep K1)).mono (fun y g2 ⟨c2, v2, D2, K2, R2, h2⟩ => ?_) (Px.tr K1)
    have e := R1.eq
    subst e
    have e := R2.eq
    subst e
    cases x <;> first | exact h2.elim | skip
    all_goals (cases y <;> first | exact h2.elim | exact ⟨c2, _, rfl, D2, K1.trans K2, h2⟩)
  | .items a, ρ, c, Q, X, h, g0, g, ρh, hD, R => by
    rw [w_I_items] at h; rw [o_items]
    refine (vE SO a false ρ c _ X h g0 g ρh hD R).seq fun x g1 ⟨c1, v1, D1, K1, R1, h1⟩ => ?_
    have e := R1.eq
    subst e
    cases x <;> first | exact h1.elim | exact ⟨h1.1, c1, _, rfl, D1, K1, h1.2⟩
  | .vals a, ρ, c, Q, X, h, g0, g, ρh, hD, R => by
    rw [w_I_vals] at h; rw [o_vals]
    refine (vE SO a false ρ c _ X h g0 g ρh hD R).seq fun x g1 ⟨c1, v1, D1, K1, R1, h1⟩ => ?_
    have e := R1.eq
    subst e
    cases x <;> first | exact h1.elim | exact ⟨h1.1, c1, _, rfl, D1, K1, h1.2⟩
end
end
end DL

set_option Elab.async false
set_option linter.all false
set_option maxRecDepth 100000
set_option maxHeartbeats 4000000
/-! the value layer: statements -/
namespace DL
open PySem PySem.Spec L2

section
variable {T : Tb} {n : Nat} {dm : Option Nat} {S : Sps}
/-- a fresh thing -/
def Pm (dm : Option Nat) (g : G) (Q : PD) : D → G → Prop := fun d g' => ∃ c' v o k, DX dm c' g' ∧ Keep (dL dm) g g' ∧ d = .ref k ∧ g'[k]? = some o ∧ g.length ≤ k ∧ (mkEV v).o = some o ∧ (∀ C ns vs, mkEV v ≠ .obj C ns vs) ∧ Q v c'
theorem bi_mut {b : Bi} (hb : bFz b = false) {ds vs : List D} {Q : D → Prop} {g : G} {P : D → G → Prop} {E : Exn → G → Prop} (h : biV b vs Q) (a : RvRs true dm g ds vs) (k : ∀ z o, Q z → (mkEV z).o = some o → (∀ C ns vs, mkEV z ≠ .obj C ns vs) → P (.ref g.length) (g ++ [o])) : Ok (biM b ds g) P E := by
  rcases one_rd h with ⟨x, rfl⟩ | ⟨i, j, rfl⟩
  · match ds, a with
    | [d], a =>
      have a := a.1
      cases b <;> first | (cases hb; done) | skip
      case list fz =>
        have hb : fz = false := hb
        subst hb
        have h1 : lsdO (fun xs => Q (.lst xs)) x := h
        rw [b_lstF, a.rd (lsdO_nref h1)]
        exact lsdO_mono h1 fun z hz => k _ _ hz rfl (fun _ _ _ q => by cases q)
      case sortI fz =>
        have hb : fz = false := hb
        subst hb
        have h1 : lstO (fun xs => OO (intsOf xs) fun bs => bs.length < 64 ∧ Q (.lst ((sortI bs).map .int))) x := h
        show Ok (match rd g d with
          | .lst xs => match intsOf xs with
            | some bs => sortM false bs g
            | none => .bad
          | _ => .bad) P E
        rw [a.rd (lstO_nref h1)]
        cases x <;> first | exact h1.elim | skip
        rename_i xs
        obtain ⟨ns, e, h2, h3⟩ := OO_get h1
        simp only [e]
        unfold sortM
        rw [if_pos h2]
        unfold mkL alloc
        rw [Ok_ok]
        exact k _ _ h3 rfl (fun _ _ _ q => by cases q)
      case dict fz =>
        have hb : fz = false := hb
        subst hb
        have h1 : dicO (fun ks vs => Q (.dct ks vs)) x := h
        rw [b_dictF, a.rd (dicO_nref h1)]
        exact dicO_mono h1 fun _ _ hz => k _ _ hz rfl (fun _ _ _ q => by cases q)
    | [], a => exact a.elim
    | _ :: _ :: _, a => exact a.2.elim
  · cases b <;> first | (cases hb; done) | exact h.elim
theorem isMut_bi {b : Bi} {es : Es} (h : isMut (.bi b es) = true) : bFz b = false := by
  cases b <;> first | (cases h; done) | skip
  all_goals (rename_i fz; cases fz <;> first | rfl | (cases h; done))
theorem vM (SO : SpsOk T dm S) : ∀ (e : E), isMut e = true → ∀ (ρ : VE) (c : Nat) (Q : PD) (X : PX), wE T n dm S e true ρ c Q X → ∀ (g0 g : G) (ρh : Env'), DX dm c g → Re dm g0 g ρ ρh → Ok (evE (cfN T n) e ρh g) (Pm dm g Q) (Px dm g X) := by
  intro e hm ρ c Q X h g0 g ρh hD R
  cases e <;> first | (cases hm; done) | skip
  case lst fz es =>
    cases fz with
    | true => cases hm
    | false =>
      rw [w_E_lst] at h
      rw [o_lstF]
      refine (vEs SO es false ρ c _ X h.2 g0 g ρh hD R).seq fun ds g1 ⟨c1, vs, D1, K1, R1, h1⟩ => ?_
      have e := R1.eq
      subst e
      exact ⟨h1.1, c1, .lst ds, _, _, D1.app, K1.appIn, rfl, q_last, K1.1, rfl, (fun _ _ _ q => by cases q), h1.2⟩
  case dct fz ps =>
    cases fz with
    | true => cases hm
    | false =>
      rw [w_E_dct] at h
      rw [o_dct]
      have K0 : Keep (dL dm) g (g ++ [O.dct [] []]) := .app
      refine (vPs SO ps ρ c _ X h.2 g0 (g ++ [.dct [] []]) ρh hD.app (R.keep K0)).mono (fun qs g1 z => ?_) (Px.tr K0)
      obtain ⟨c1, D1, K1, h1⟩ := z
      refine ⟨h1.1, ?_⟩
      obtain ⟨rr, e, q⟩ := OO_get h1.2
      have hl := R.dmg
      have e0 : g1[g.length]? = some (O.dct [] []) := K1.at q_last (fun z => by have := hl _ z; omega)
      have hn : g.length ∉ dL dm := fun z => by have := hl _ z; omega
      have KK : ∀ o, Keep (dL dm) g (g1.set g.length o) := fun o => (K0.trans K1).setIn (.inr (Nat.le_refl _))
      unfold setDctM
      simp only [e0, e]
      rw [Ok_ok]
      exact ⟨c1, .dct rr.1 rr.2, _, _, D1.set hn, KK _, rfl, set_self e0, Nat.le_refl _, rfl, (fun _ _ _ q => by cases q), q⟩
  case bi b es =>
    rw [w_E_bi] at h; rw [o_bi]
    refine (vEs SO es true ρ c _ X h.2 g0 g ρh hD R).seq fun ds g1 ⟨c1, vs, D1, K1, R1, h1⟩ => ?_
    exact bi_mut (isMut_bi hm) h1 R1 fun z o q ho hn => ⟨c1, z, o, _, D1.app, K1.appIn, rfl, q_last, K1.1, ho, hn, q⟩
  case lc fz own elt t it ifs =>
    cases fz with
    | true => cases hm
    | false =>
      rw [w_E_lc] at h; rw [o_lc]
      refine (vI SO it ρ c _ X h.2 g0 g ρh hD R).seq fun i g1 ⟨c1, ds, e, D1, K1, hF, h1⟩ => ?_
      subst e
      have R1 := R.keep K1
      have hn : g1.length ∉ dL dm := fun z => by have := R1.dmg _ z; omega
      refine wLC_ok (bw := fun d c K => wT t d (wipeV ρ own) fun ρ1 => wIfs T n dm S ifs ρ1 c (fun k c => if k = true then wE T n dm S elt false ρ1 c (fun y c => K (some y) c) (fun _ _ => False) else K none c) (fun _ _ => False)) rfl hn hF ?_ D1.app Keep.app q_last h1 rfl ?_
      · intro d hd c K g2 hw D2 K2
        rw [body_lc]
        have R2 := R1.keep K2
        refine (vT t d (wipeV ρ own) _ hw g0 g2 (wipeE ρh own) (R2.wipe own)).seq fun ρh' g' ⟨e, ρ', R', h'⟩ => ?_
        subst e
        refine (vIfs SO ifs ρ' c _ _ h' g0 g' ρh' D2 R').mono (fun k g3 ⟨c3, D3, K3, h3⟩ => ?_) fun e g3 ⟨_, _, _, z⟩ => z.elim
        cases k with
        | false => exact ⟨c3, D3, K3, h3⟩
        | true =>
          refine (vE SO elt false ρ' c3 _ _ h3 g0 g3 ρh' D3 (R'.keep K3)).mono (fun y g4 ⟨c4, v4, D4, K4, R4, h4⟩ => ?_) fun e g4 ⟨_, _, _, z⟩ => z.elim
          rw [R4.eq]
          exact ⟨c4, D4, K3.trans K4, h4⟩
      · intro xs c' g' hg' D' K' q
        rw [endF]
        exact ⟨c', .lst xs, _, _, D', K1.trans K', rfl, hg', K1.1, rfl, (fun _ _ _ q => by cases q), q⟩
end
theorem Re.lt {dm : Option Nat} {g0 g : G} {ρ : VE} {ρh : Env'} (R : Re dm g0 g ρ ρh) {j k : Nat} {ev : EV} {o : O} (e : ρ[j]? = some ev) (eo : ev.o = some o) (h : ρh[j]? = some (some (.ref k))) : k < g.length := by
  obtain ⟨hh, e1, _, h2⟩ := R.sl j ev e
  obtain ⟨k2, q1, q2, q3⟩ := h2 o eo
  rw [h] at e1
  cases e1
  cases q1
  exact (List.getElem?_eq_some_iff.mp q2).1
/-- a thing nobody has any more -/
theorem Re.drop {dm : Option Nat} {g0 g : G} {ρ : VE} {ρh : Env'} (R : Re dm g0 g ρ ρh) {k : Nat} {o : O} (hk : g0.length ≤ k) (hf : ∀ (j : Nat) (ev' : EV) (o' : O), ρ[j]? = some ev' → ev'.o = some o' → ρh[j]? ≠ some (some (D.ref k))) : Re dm g0 (g.set k o) ρ ρh where
  len := R.len
  sl := fun j ev e => by
    obtain ⟨h, e1, r1, r2⟩ := R.sl j ev e
    refine ⟨h, e1, r1, fun o2 q => ?_⟩
    obtain ⟨k2, s1, s2, s3⟩ := r2 o2 q
    subst s1
    have : k ≠ k2 := fun z => by
      subst z
      exact hf j ev o2 e q e1
    exact ⟨k2, rfl, by rw [List.getElem?_set_ne this]; exact s2, s3⟩
  inj := R.inj
  dm := R.dm
  kp := R.kp.setIn (.inr hk)
  ob := R.ob
/-- what statements end in -/
def Ks (dm : Option Nat) (g0 : G) (K : KS) : Fl × Env' → G → Prop := fun x g' => ∃ ρ' c', DX dm c' g' ∧ Re dm g0 g' ρ' x.2 ∧ K x.1 ρ' c'
theorem isL_get {ev : EV} (h : isL ev = true) : ∃ xs, ev = .lst xs := by
  cases ev <;> first | exact ⟨_, rfl⟩ | cases h
section
variable {dm : Option Nat} {g0 g : G} {ρ : VE} {ρh : Env'} {c : Nat}
theorem setV_ok {i : Nat} {y d : D} {K : VE → Prop} {ev : EV} {P : Unit → G → Prop} {E : Exn → G → Prop} {k : Nat} {o : O} (R : Re dm g0 g ρ ρh) (hD : DX dm c g) (he : slV ρ i = ev) (h : setV ρ i y d K ev) (hk : ρh[i]? = some (some (.ref k))) (ho : ev.o = some o) (ek : g[k]? = some o) (hg : g0.length ≤ k) (fin : ∀ ρ' g', Re dm g0 g' ρ' ρh → DX dm c g' → K ρ' → P () g') : Ok (setItemM (.ref k) y d g) P E := by
  rw [z_set, ek]
  obtain ⟨e1, _⟩ := R.getO he ho
  cases ev <;> first | exact h.elim | skip
  · cases ho
    rename_i xs
    obtain ⟨j, e, h⟩ := intV_get h
    subst e
    exact OO_mono h fun a q => fin _ _ (R.upd e1 rfl rfl hk (fun _ _ _ q => by cases q)) (hD.set (R.fresh hg)) q
  · cases ho
    rename_i ks vs
    exact OO_mono h fun a q => ⟨q.1, fin _ _ (R.upd e1 rfl rfl hk (fun _ _ _ q => by cases q)) (hD.set (R.fresh hg)) q.2⟩
end
/-- values and fresh things, one behind the other -/
def EvRs (g : G) : Nat → List D → List EV → Prop
  | _, [], [] => True
  | b, d :: ds, ev :: evs => (ev = .val d ∧ EvRs g b ds evs) ∨ ∃ k o, d = .ref k ∧ ev.o = some o ∧ (∀ C ns vs, ev ≠ .obj C ns vs) ∧ g[k]? = some o ∧ b ≤ k ∧ EvRs g (k + 1) ds evs
  | _, _, _ => False
theorem EvRs.mono {g : G} : ∀ {ds : List D} {evs : List EV} {b b' : Nat}, EvRs g b ds evs → b' ≤ b → EvRs g b' ds evs
  | [], [], _, _, _, _ => trivial
  | d :: ds, ev :: evs, b, b', h, hb => by
    rcases h with ⟨e, h⟩ | ⟨k, o, a1, a2, a3, a4, a5, h⟩
    · exact .inl ⟨e, h.mono hb⟩
    · exact .inr ⟨k, o, a1, a2, a3, a4, by omega, h⟩
  | [], _ :: _, _, _, h, _ => h.elim
  | _ :: _, [], _, _, h, _ => h.elim
theorem par_ok {dm : Option Nat} {g0 g : G} : ∀ {is : List Nat} {ds : List D} {evs : List EV} {ρ ρ' : VE} {ρh : Env'} {b : Nat}, Re dm g0 g ρ ρh → g0.length ≤ b → (∀ (j : Nat) (ev : EV) (o : O) (k : Nat), ρ[j]? = some ev → ev.o = some o → ρh[j]? = some (some (D.ref k)) → k < b) → EvRs g b ds evs → parV is evs ρ = some ρ' → ∃ ρh', parSet is ds ρh = some ρh' ∧ Re dm g0 g ρ' ρh'
  | [], [], [], ρ, ρ', ρh, b, R, _, _, _, h => by
    cases h
    exact ⟨ρh, rfl, R⟩
  | i :: is, d :: ds, ev :: evs, ρ, ρ', ρh, b, R, hb, hl, h, hp => by
    rcases h with ⟨e, h⟩ | ⟨k, o, a1, a2, a3, a4, a5, h⟩
    · subst e
      have hp : parV is evs (ρ.set i (.val d)) = some ρ' := hp
      show ∃ ρh', parSet is ds (ρh.set i (some d)) = some ρh' ∧ _
      refine par_ok (R.setV i d) hb (fun j ev o k e1 e2 e3 => ?_) h hp
      rcases set_get e1 with ⟨rfl, rfl, _⟩ | ⟨n1, f1⟩
      · cases e2
      · rw [List.getElem?_set_ne n1] at e3
        exact hl j ev o k f1 e2 e3
    · subst a1
      have hp : parV is evs (ρ.set i ev) = some ρ' := hp
      show ∃ ρh', parSet is ds (ρh.set i (some (.ref k))) = some ρh' ∧ _
      refine par_ok (R.setM i a2 a3 a4 (by omega) fun j ev' o' f1 f2 f3 => ?_) (by omega) (fun j ev' o' k' e1 e2 e3 => ?_) h hp
      · have := hl j ev' o' k f1 f2 f3
        omega
      · rcases set_get e1 with ⟨rfl, rfl, hi⟩ | ⟨n1, f1⟩
        · rw [List.getElem?_set_self (by rw [← R.len]; exact hi)] at e3
          cases e3
          omega
        · rw [List.getElem?_set_ne n1] at e3
          have := hl j ev' o' k' f1 e2 e3
          omega
  | [], _, _ :: _, _, _, _, _, _, _, _, _, h => by cases h
  | _ :: _, _, [], _, _, _, _, _, _, _, _, h => by cases h
  | [], _ :: _, [], _, _, _, _, _, _, _, h, _ => h.elim
  | _ :: _, [], _ :: _, _, _, _, _, _, _, _, h, _ => h.elim
theorem EvRs.keep {dm : Option Nat} {g g' : G} (K : Keep (dL dm) g g') (hf : ∀ m ∈ dL dm, m < b0) : ∀ {ds : List D} {evs : List EV} {b : Nat}, b0 ≤ b → EvRs g b ds evs → EvRs g' b ds evs
  | [], [], _, _, _ => trivial
  | d :: ds, ev :: evs, b, hb, h => by
    rcases h with ⟨e, h⟩ | ⟨k, o, a1, a2, a3, a4, a5, h⟩
    · exact .inl ⟨e, h.keep K hf hb⟩
    · exact .inr ⟨k, o, a1, a2, a3, K.at a4 (fun z => by have := hf k z; omega), a5, h.keep K hf (by omega)⟩
  | [], _ :: _, _, _, h => h.elim
  | _ :: _, [], _, _, h => h.elim
theorem vPar {T : Tb} {n : Nat} {dm : Option Nat} {S : Sps} (SO : SpsOk T dm S) : ∀ (es : Es) (ρ : VE) (c : Nat) (Q : List EV → Nat → Prop) (X : PX), wPar T n dm S es ρ c Q X → ∀ (g0 g : G) (ρh : Env'), DX dm c g → Re dm g0 g ρ ρh → Ok (evEs (cfN T n) es ρh g) (fun ds g' => ∃ c' evs, DX dm c' g' ∧ Keep (dL dm) g g' ∧ EvRs g' g.length ds evs ∧ Q evs c') (Px dm g X)
  | .nil, ρ, c, Q, X, h, g0, g, ρh, hD, R => by
    rw [o_nil]; exact ⟨c, [], hD, .rfl', trivial, h⟩
  | .cons e es, ρ, c, Q, X, h, g0, g, ρh, hD, R => by
    rw [o_cons]
    have h : wE T n dm S e (isMut e) ρ c (fun x c => wPar T n dm S es ρ c (fun xs c => Q (evOf e x :: xs) c) X) X := h
    cases hm : isMut e with
    | true =>
      rw [hm] at h
      refine (vM SO e hm ρ c _ X h g0 g ρh hD R).seq fun x g1 ⟨c1, v, o, k, D1, K1, e1, e2, e3, e4, e5, h1⟩ => ?_
      have hk : k < g1.length := (List.getElem?_eq_some_iff.mp e2).1
      refine (vPar SO es ρ c1 _ X h1 g0 g1 ρh D1 (R.keep K1)).mono (fun ys g2 ⟨c2, evs, D2, K2, R2, h2⟩ => ⟨c2, evOf e v :: evs, D2, K1.trans K2, Or.inr ⟨k, o, e1, ?_, ?_, K2.at e2 (fun z => by have := R.dmg k z; omega), e3, R2.mono (by omega)⟩, h2⟩) (Px.tr K1)
      · unfold evOf; rw [hm]; exact e4
      · unfold evOf; rw [hm]; exact e5
    | false =>
      rw [hm] at h
      refine (vE SO e false ρ c _ X h g0 g ρh hD R).seq fun x g1 ⟨c1, v1, D1, K1, R1, h1⟩ => ?_
      have e' := R1.eq
      subst e'
      refine (vPar SO es ρ c1 _ X h1 g0 g1 ρh D1 (R.keep K1)).mono (fun ys g2 ⟨c2, evs, D2, K2, R2, h2⟩ => ⟨c2, evOf e x :: evs, D2, K1.trans K2, Or.inl ⟨?_, R2.mono K1.1⟩, h2⟩) (Px.tr K1)
      unfold evOf; rw [hm]; rfl
theorem aug_nref {op : Op2} {x y z : D} (h : aug2 op x y = some z) : nref x ∧ nref y := by
  constructor
  · rintro k rfl
    cases op <;> cases y <;> simp [aug2] at h
  · rintro k rfl
    cases op <;> cases x <;> simp [aug2] at h
end DL

set_option Elab.async false
set_option linter.all false
set_option maxRecDepth 100000
set_option maxHeartbeats 4000000
/-! the value layer: statements, defs -/
namespace DL
open PySem PySem.Spec L2

section
variable {T : Tb} {n : Nat} {dm : Option Nat} {S : Sps}
theorem Ks.rs {dm : Option Nat} {g0 g : G} {ρ : VE} {ρh : Env'} {K : KS} (R : Re dm g0 g ρ ρh) : ∀ e g', Px dm g (fun e c => K (.rs e) ρ c) e g' → Ks dm g0 K (.rs e, ρh) g' := fun e g' ⟨c', D', K', q⟩ => ⟨ρ, c', D', R.keep K', q⟩
theorem vX (SO : SpsOk T dm S) (a : E) (ρ : VE) (c : Nat) (K : KS) (h : wX T n dm S a ρ c K) (g0 g : G) (ρh : Env') (hD : DX dm c g) (R : Re dm g0 g ρ ρh) {E : Exn → G → Prop} : Ok (evS (cfN T n) (.ex a) ρh g) (Ks dm g0 K) E := by
  rw [o_ex]
  unfold wX at h
  split at h
  · rename_i i e
    obtain ⟨hl, h⟩ := h
    obtain ⟨xs, hl⟩ := isL_get hl
    obtain ⟨e1, k, hs, hk, ek, hg⟩ := R.getO hl rfl
    rw [o_mt, o_v, hs, OO_some]
    refine ⟨by rw [rd_o ek rfl]; rfl, ?_⟩
    rw [o_cons]
    refine (vE SO e false ρ c _ _ h g0 g ρh hD R).mono (fun y g1 ⟨c1, v1, D1, K1, R1, h1⟩ => ?_) (Ks.rs R)
    have e' := R1.eq
    subst e'
    rw [o_nil, a_app, K1.at ek (R.fresh hg)]
    rw [hl] at h1
    exact ⟨h1.1, _, c1, D1.set (R.fresh hg), (R.keep K1).upd e1 rfl rfl hk (fun _ _ _ q => by cases q), h1.2⟩
  · rename_i i e
    obtain ⟨hl, hm, h⟩ := h
    obtain ⟨xs, hl⟩ := isL_get hl
    obtain ⟨e1, k, hs, hk, ek, hg⟩ := R.getO hl rfl
    rw [o_mt, o_v, hs, OO_some]
    refine ⟨by rw [rd_o ek rfl]; rfl, ?_⟩
    rw [o_cons]
    refine (vM SO e hm ρ c _ _ h g0 g ρh hD R).mono (fun y g1 ⟨c1, v, o, m, D1, K1, q1, q2, q3, q4, q5, h1⟩ => ?_) (Ks.rs R)
    subst q1
    rw [hl] at h1
    cases v <;> first | exact h1.elim | skip
    rename_i ys
    cases q4
    rw [o_nil, a_ext, K1.at ek (R.fresh hg), q2]
    exact ⟨h1.1, _, c1, D1.set (R.fresh hg), (R.keep K1).upd e1 rfl rfl hk (fun _ _ _ q => by cases q), h1.2⟩
  · exact (vE SO a false ρ c _ _ h g0 g ρh hD R).mono (fun y g1 ⟨c1, v1, D1, K1, R1, h1⟩ => ⟨ρ, c1, D1, R.keep K1, h1⟩) (Ks.rs R)
theorem vA (SO : SpsOk T dm S) (t : Tg) (a : E) (ρ : VE) (c : Nat) (K : KS) (h : wA T n dm S t a ρ c K) (g0 g : G) (ρh : Env') (hD : DX dm c g) (R : Re dm g0 g ρ ρh) {E : Exn → G → Prop} : Ok (evS (cfN T n) (.asg t a) ρh g) (Ks dm g0 K) E := by
  rw [o_asg]
  unfold wA at h
  split at h
  · rename_i i
    cases hm : isMut a with
    | true =>
      rw [hm] at h
      refine (vM SO a hm ρ c _ _ h g0 g ρh hD R).mono (fun y g1 ⟨c1, v, o, m, D1, K1, q1, q2, q3, q4, q5, h1⟩ => ?_) (Ks.rs R)
      subst q1
      rw [o_tg]
      unfold evOf at h1
      rw [hm] at h1
      exact ⟨_, c1, D1, (R.keep K1).setM i q4 q5 q2 (Nat.le_trans R.kp.1 q3) (fun j ev' o' f1 f2 f3 => by have := R.lt f1 f2 f3; omega), h1⟩
    | false =>
      rw [hm] at h
      refine (vE SO a false ρ c _ _ h g0 g ρh hD R).mono (fun y g1 ⟨c1, v1, D1, K1, R1, h1⟩ => ?_) (Ks.rs R)
      have e' := R1.eq
      subst e'
      rw [o_tg]
      unfold evOf at h1
      rw [hm] at h1
      exact ⟨_, c1, D1, (R.keep K1).setV i _, h1⟩
  · rename_i i b
    refine (vE SO a false ρ c _ _ h g0 g ρh hD R).mono (fun d g1 ⟨c1, v1, D1, K1, R1, h1⟩ => ?_) (Ks.rs R)
    have e' := R1.eq
    subst e'
    obtain ⟨hl, h1⟩ := h1
    obtain ⟨o, ho⟩ := Option.isSome_iff_exists.mp hl
    have R1 := R.keep K1
    obtain ⟨e1, k, hs, hk, ek, hg⟩ := R1.getO rfl ho
    rw [o_tgI, o_v, hs, OO_some]
    refine (vE SO b false ρ c1 _ _ h1 g0 g1 ρh D1 R1).mono (fun y g2 ⟨c2, v2, D2, K2, R2, h2⟩ => ?_) fun e g2 ⟨_, _, _, z⟩ => z.elim
    have e' := R2.eq
    subst e'
    exact setV_ok (R1.keep K2) D2 rfl h2 hk ho (K2.at ek (R1.fresh hg)) hg fun ρ' g' R' D' q => ⟨ρ', c2, D', R', q⟩
  · rename_i i f
    refine (vE SO a false ρ c _ _ h g0 g ρh hD R).mono (fun d g1 ⟨c1, v1, D1, K1, R1, h1⟩ => ?_) (Ks.rs R)
    have e' := R1.eq
    subst e'
    cases he : slV ρ i <;> rw [he] at h1 <;> first | exact h1.elim | skip
    rename_i C ns vs
    obtain ⟨h2, h3, h4⟩ := h1
    have R1 := R.keep K1
    obtain ⟨e1, k, hs, hk, ek, hg⟩ := R1.getO he rfl
    rw [o_tgF, o_v, hs, OO_some]
    unfold setFldM
    simp only [ek, h2, if_pos h3]
    rw [Ok_ok]
    exact ⟨_, c1, D1.set (R.fresh hg), R1.upd e1 rfl rfl hk (fun _ _ _ q => ⟨_, _, _, rfl⟩), h4⟩
  · rename_i ts
    refine (vE SO a false ρ c _ _ h g0 g ρh hD R).mono (fun d g1 ⟨c1, v1, D1, K1, R1, h1⟩ => ?_) (Ks.rs R)
    have e' := R1.eq
    subst e'
    exact (vT (.tup ts) d ρ _ h1 g0 g1 ρh (R.keep K1)).seq fun ρh' g' ⟨e, ρ', R', h'⟩ => by subst e; exact ⟨ρ', c1, D1, R', h'⟩
  · exact h.elim
theorem wFor_ok {bw : D → VE → Nat → KS → Prop} {body : D → Env' → M (Fl × Env')} {g0 : G} {K : KS} {ds : List D} (hb : ∀ d ∈ ds, ∀ ρ c K, bw d ρ c K → ∀ g ρh, DX dm c g → Re dm g0 g ρ ρh → ∀ {E : Exn → G → Prop}, Ok (body d ρh g) (Ks dm g0 K) E) {ρ : VE} {c : Nat} {g : G} {ρh : Env'} (hD : DX dm c g) (R : Re dm g0 g ρ ρh) (h : wFor bw K ds ρ c) {k : Nat} (hk : k = ds.length) {E : Exn → G → Prop} : Ok (loopS (.fix ds) body k 0 ρh g) (Ks dm g0 K) E := by
  refine loop_ok0 (fun i ρh g => ∃ ρ c, DX dm c g ∧ Re dm g0 g ρ ρh ∧ wFor bw K (ds.drop i) ρ c) ?_ ?_ k 0 ρh g (by omega) ⟨ρ, c, hD, R, h⟩
  · intro i d ρh g hd ⟨ρ, c, hD, R, h⟩
    have hi : i < ds.length := (List.getElem?_eq_some_iff.mp hd).1
    have e : ds.drop i = d :: ds.drop (i + 1) := by
      rw [List.drop_eq_getElem_cons hi]
      congr 1
      exact (List.getElem?_eq_some_iff.mp hd).2
    rw [e] at h
    have h : bw d ρ c _ := h
    refine (hb d (List.mem_of_getElem? hd) ρ c _ h g ρh hD R).seq fun x g' ⟨ρ', c', D', R', q⟩ => ?_
    obtain ⟨f, ρh'⟩ := x
    cases f <;> exact ⟨ρ', c', D', R', q⟩
  · intro ρh g ⟨ρ, c, hD, R, h⟩
    rw [List.drop_length] at h
    exact ⟨ρ, c, hD, R, h⟩
theorem wWhl_ok {cw : VE → Nat → (Bool → Nat → Prop) → PX → Prop} {bw : VE → Nat → KS → Prop} {cond : Env' → M Bool} {body : Env' → M (Fl × Env')} {g0 : G} {K : KS}
    (hc : ∀ ρ c Q X, cw ρ c Q X → ∀ g ρh, DX dm c g → Re dm g0 g ρ ρh → Ok (cond ρh g) (Pqa dm g Q) (Px dm g X))
    (hb : ∀ ρ c K, bw ρ c K → ∀ g ρh, DX dm c g → Re dm g0 g ρ ρh → ∀ {E : Exn → G → Prop}, Ok (body ρh g) (Ks dm g0 K) E) : ∀ (k : Nat) (ρ : VE) (c : Nat), wWhl cw bw K k ρ c → ∀ g ρh, DX dm c g → Re dm g0 g ρ ρh → ∀ {E : Exn → G → Prop}, Ok (whileS cond body k ρh g) (Ks dm g0 K) E
  | 0, ρ, c, h, g, ρh, hD, R, E => h.elim
  | k + 1, ρ, c, h, g, ρh, hD, R, E => by
    simp only [whileS]
    rw [Ok_liftS]
    have h : cw ρ c _ _ := h
    refine (hc ρ c _ _ h g ρh hD R).mono (fun b g1 ⟨c1, D1, K1, h1⟩ => ?_) (Ks.rs R)
    cases b with
    | false =>
      show Ok (DL.R.ok ((Fl.nx, ρh) : Fl × Env') g1) _ _
      rw [Ok_ok]
      exact ⟨ρ, c1, D1, R.keep K1, h1⟩
    | true =>
      show Ok ((body ρh g1).bind _) _ _
      rw [Ok_bind]
      have h1 : bw ρ c1 _ := h1
      refine (hb ρ c1 _ h1 g1 ρh D1 (R.keep K1)).seq fun x g2 ⟨ρ2, c2, D2, R2, h2⟩ => ?_
      obtain ⟨f, ρh2⟩ := x
      cases f with
      | nx => exact wWhl_ok hc hb k ρ2 c2 h2 g2 ρh2 D2 R2
      | ct => exact wWhl_ok hc hb k ρ2 c2 h2 g2 ρh2 D2 R2
      | bk => exact Ok.of rfl ⟨ρ2, c2, D2, R2, h2⟩
      | rt d => exact Ok.of rfl ⟨ρ2, c2, D2, R2, h2⟩
      | rs x => exact Ok.of rfl ⟨ρ2, c2, D2, R2, h2⟩
mutual
theorem vS (SO : SpsOk T dm S) : ∀ (s : DL.S) (ρ : VE) (c : Nat) (K : KS), wS T n dm S s ρ c K → ∀ (g0 g : G) (ρh : Env'), DX dm c g → Re dm g0 g ρ ρh → ∀ {E : Exn → G → Prop}, Ok (evS (cfN T n) s ρh g) (Ks dm g0 K) E
  | .ex a, ρ, c, K, h, g0, g, ρh, hD, R, E => by
    have h : wX T n dm S a ρ c K := by rw [w_S_ex] at h; exact h
    exact vX SO a ρ c K h g0 g ρh hD R
  | .ret a, ρ, c, K, h, g0, g, ρh, hD, R, E => by
    rw [w_S_ret] at h; rw [o_ret]
    refine (vE SO a false ρ c _ _ h g0 g ρh hD R).mono (fun y g1 ⟨c1, v1, D1, K1, R1, h1⟩ => ?_) (Ks.rs R)
    rw [R1.eq]
    exact ⟨ρ, c1, D1, R.keep K1, h1⟩
  | .retn, ρ, c, K, h, g0, g, ρh, hD, R, E => by
    rw [w_S_retn] at h; rw [o_retn]; exact ⟨ρ, c, hD, R, h⟩
  | .asg t a, ρ, c, K, h, g0, g, ρh, hD, R, E => by
    have h : wA T n dm S t a ρ c K := by rw [w_S_asg] at h; exact h
    exact vA SO t a ρ c K h g0 g ρh hD R
  | .par is es, ρ, c, K, h, g0, g, ρh, hD, R, E => by
    rw [w_S_par] at h; rw [o_par]
    refine (vPar SO es ρ c _ _ h g0 g ρh hD R).mono (fun ds g1 ⟨c1, evs, D1, K1, R1, h1⟩ => ?_) (Ks.rs R)
    obtain ⟨ρ', e, q⟩ := OO_get h1
    obtain ⟨ρh', e', R'⟩ := par_ok (R.keep K1) R.kp.1 (fun j ev o k f1 f2 f3 => R.lt f1 f2 f3) R1 e
    exact OO_of e' ⟨ρ', c1, D1, R', q⟩
  | .augv i op a, ρ, c, K, h, g0, g, ρh, hD, R, E => by
    rw [w_S_augv] at h; rw [o_augv]
    obtain ⟨x, e, h⟩ := OO_get h
    refine OO_of (R.val e) ?_
    refine (vE SO a false ρ c _ _ h g0 g ρh hD R).mono (fun y g1 ⟨c1, v1, D1, K1, R1, h1⟩ => ?_) (Ks.rs R)
    have e' := R1.eq
    subst e'
    obtain ⟨z, e, q⟩ := OO_get h1
    rw [rd_nref (aug_nref e).1, rd_nref (aug_nref e).2]
    exact OO_of e ⟨_, c1, D1, (R.keep K1).setV i z, q⟩
  | .augf o f op a, ρ, c, K, h, g0, g, ρh, hD, R, E => by
    have e : wS T n dm S (.augf o f op a) ρ c K = False := by with_unfolding_all rfl
    rw [e] at h; exact h.elim
  | .iff e a b, ρ, c, K, h, g0, g, ρh, hD, R, E => by
    rw [w_S_iff] at h; rw [o_iff]
    refine (vE SO e true ρ c _ _ h g0 g ρh hD R).mono (fun x g1 ⟨c1, v1, D1, K1, R1, h1⟩ => ?_) (Ks.rs R)
    obtain ⟨z, ez, q⟩ := OO_get h1
    refine OO_of (truD_rd ez R1) ?_
    cases z with
    | true => exact vSs SO a ρ c1 _ q g0 g1 ρh D1 (R.keep K1)
    | false => exact vSs SO b ρ c1 _ q g0 g1 ρh D1 (R.keep K1)
  | .forr t it b, ρ, c, K, h, g0, g, ρh, hD, R, E => by
    rw [w_S_forr] at h; rw [o_for]
    refine (vI SO it ρ c _ _ h g0 g ρh hD R).mono (fun i g1 ⟨c1, ds, e, D1, K1, h1⟩ => ?_) (Ks.rs R)
    subst e
    refine wFor_ok (fun d hd ρ2 c2 K2 hw g2 ρh2 D2 R2 E => ?_) D1 (R.keep K1) h1 rfl
    rw [Ok_bindM, Ok_noEx]
    refine (vT (E := Never) t d ρ2 _ hw g0 g2 ρh2 R2).mono (fun ρh' g' ⟨e, ρ', R', h'⟩ => ?_) (fun _ _ z => z)
    subst e
    exact vSs SO b ρ' c2 _ h' g0 g' ρh' D2 R'
  | .whl e b, ρ, c, K, h, g0, g, ρh, hD, R, E => by
    rw [w_S_whl] at h; rw [o_whl, cfN_wf]
    refine wWhl_ok (fun ρ c Q X hw g ρh D R => ?_) (fun ρ c K hw g ρh D R E => vSs SO b ρ c K hw g0 g ρh D R) T.wf ρ c h g ρh hD R
    rw [o_T]
    refine (vE SO e true ρ c _ _ hw g0 g ρh D R).seq fun x g1 ⟨c1, v1, D1, K1, R1, h1⟩ => ?_
    obtain ⟨z, ez, q⟩ := OO_get h1
    exact OO_of (truD_rd ez R1) ⟨c1, D1, K1, q⟩
  | .brk, ρ, c, K, h, g0, g, ρh, hD, R, E => by
    rw [w_S_brk] at h; rw [o_brk]; exact ⟨ρ, c, hD, R, h⟩
  | .cnt, ρ, c, K, h, g0, g, ρh, hD, R, E => by
    rw [w_S_cnt] at h; rw [o_cnt]; exact ⟨ρ, c, hD, R, h⟩
  | .pas, ρ, c, K, h, g0, g, ρh, hD, R, E => by
    rw [w_S_pas] at h; rw [o_pas]; exact ⟨ρ, c, hD, R, h⟩
  | .rse C es, ρ, c, K, h, g0, g, ρh, hD, R, E => by
    rw [w_S_rse] at h; rw [o_rse]
    refine (vEs SO es false ρ c _ _ h g0 g ρh hD R).mono (fun ds g1 ⟨c1, vs, D1, K1, R1, h1⟩ => ?_) (Ks.rs R)
    have e' := R1.eq
    subst e'
    unfold raiV at h1
    refine OO_mono h1 fun fs hf => ?_
    cases fs with
    | nil => exact ⟨hf.1, ρ, c1, D1, R.keep K1, hf.2⟩
    | cons f fs => exact ⟨hf.1, ρ, c1, D1, R.keep K1, hf.2⟩
  | .frz i, ρ, c, K, h, g0, g, ρh, hD, R, E => by
    rw [w_S_frz] at h; rw [o_frz]
    obtain ⟨d, e, h⟩ := OO_get h
    have ho : ∃ o, (slV ρ i).o = some o ∧ frzO (fun d' => d' = d) (some o) := by
      cases he : slV ρ i <;> rw [he] at e <;> first | (cases e; done) | exact ⟨_, rfl, by cases e; rfl⟩
    obtain ⟨o, ho, hf⟩ := ho
    obtain ⟨e1, k, hs, hk, ek, hg⟩ := R.getO rfl ho
    rw [hs, OO_some, f_frz, ek]
    have fin : Ks dm g0 K (.nx, ρh.set i (some d)) (g.set k .gone) := by
      refine ⟨_, c, hD.set (R.fresh hg), (R.setV i d).drop hg fun j ev' o' f1 f2 f3 => ?_, h⟩
      rcases set_get f1 with ⟨rfl, rfl, _⟩ | ⟨n1, f1⟩
      · cases f2
      · rw [List.getElem?_set_ne n1] at f3
        exact n1 (R.inj i j _ _ _ _ k e1 f1 ho f2 hk f3)
    cases o <;> first | exact hf.elim | skip
    all_goals (cases hf; exact fin)
  | .tri b hs, ρ, c, K, h, g0, g, ρh, hD, R, E => by
    rw [w_S_tri] at h; rw [o_tri]
    refine (vSs SO b ρ c _ h g0 g ρh hD R).seq fun x g1 ⟨ρ1, c1, D1, R1, h1⟩ => ?_
    obtain ⟨f, ρh1⟩ := x
    cases f with
    | rs e => rw [tr_rs]; exact vHs SO hs e ρ1 c1 K h1 g0 g1 ρh1 D1 R1
    | nx => rw [tr_nx]; exact ⟨ρ1, c1, D1, R1, h1⟩
    | bk => rw [tr_bk]; exact ⟨ρ1, c1, D1, R1, h1⟩
    | ct => rw [tr_ct]; exact ⟨ρ1, c1, D1, R1, h1⟩
    | rt d => rw [tr_rt]; exact ⟨ρ1, c1, D1, R1, h1⟩
  | .bad, ρ, c, K, h, g0, g, ρh, hD, R, E => by
    have e : wS T n dm S .bad ρ c K = False := by with_unfolding_all rfl
    rw [e] at h; exact h.elim
theorem vSs (SO : SpsOk T dm S) : ∀ (ss : Ss) (ρ : VE) (c : Nat) (K : KS), wSs T n dm S ss ρ c K → ∀ (g0 g : G) (ρh : Env'), DX dm c g → Re dm g0 g ρ ρh → ∀ {E : Exn → G → Prop}, Ok (evSs (cfN T n) ss ρh g) (Ks dm g0 K) E
  | .nil, ρ, c, K, h, g0, g, ρh, hD, R, E => by
    rw [w_Ss_nil] at h; rw [o_ssn]; exact ⟨ρ, c, hD, R, h⟩
  | .cons s ss, ρ, c, K, h, g0, g, ρh, hD, R, E => by
    rw [w_Ss_cons] at h; rw [o_ssc]
    refine (vS SO s ρ c _ h g0 g ρh hD R).seq fun x g1 ⟨ρ1, c1, D1, R1, h1⟩ => ?_
    obtain ⟨f, ρh1⟩ := x
    cases f with
    | nx => rw [th_nx]; exact vSs SO ss ρ1 c1 K h1 g0 g1 ρh1 D1 R1
    | rs e => rw [th_rs]; exact ⟨ρ1, c1, D1, R1, h1⟩
    | bk => rw [th_bk]; exact ⟨ρ1, c1, D1, R1, h1⟩
    | ct => rw [th_ct]; exact ⟨ρ1, c1, D1, R1, h1⟩
    | rt d => rw [th_rt]; exact ⟨ρ1, c1, D1, R1, h1⟩
theorem vHs (SO : SpsOk T dm S) : ∀ (hs : Hs) (e : Exn) (ρ : VE) (c : Nat) (K : KS), wHs T n dm S hs e ρ c K → ∀ (g0 g : G) (ρh : Env'), DX dm c g → Re dm g0 g ρ ρh → ∀ {E : Exn → G → Prop}, Ok (evHs (cfN T n) hs e ρh g) (Ks dm g0 K) E
  | .nil, e, ρ, c, K, h, g0, g, ρh, hD, R, E => by
    rw [w_Hs_nil] at h; rw [o_hn]; exact ⟨ρ, c, hD, R, h⟩
  | .cons C i ss hs, e, ρ, c, K, h, g0, g, ρh, hD, R, E => by
    rw [w_Hs_cons] at h; rw [o_hc]
    refine OO_mono h fun b h => ?_
    cases b with
    | false => exact vHs SO hs e ρ c K h g0 g ρh hD R
    | true =>
      cases i with
      | none =>
        have h : wSs T n dm S ss ρ c (noRV K) := h
        refine (vSs SO ss ρ c _ h g0 g ρh hD R).seq fun x g1 ⟨ρ1, c1, D1, R1, h1⟩ => ?_
        obtain ⟨f, ρh1⟩ := x
        cases f with
        | rs e => exact h1.elim
        | nx => rw [nr_nx]; exact ⟨ρ1, c1, D1, R1, h1⟩
        | bk => rw [nr_bk]; exact ⟨ρ1, c1, D1, R1, h1⟩
        | ct => rw [nr_ct]; exact ⟨ρ1, c1, D1, R1, h1⟩
        | rt d => rw [nr_rt]; exact ⟨ρ1, c1, D1, R1, h1⟩
      | some i =>
        have h : wSs T n dm S ss (ρ.set i (.val (.exc e.cls e.ns e.vs))) c (noRV fun f ρ c => K f (ρ.set i .nil) c) := h
        refine (vSs SO ss _ c _ h g0 g _ hD (R.setV i _)).seq fun x g1 ⟨ρ1, c1, D1, R1, h1⟩ => ?_
        obtain ⟨f, ρh1⟩ := x
        cases f with
        | rs e => exact h1.elim
        | nx => rw [nr_nx]; exact ⟨_, c1, D1, R1.setN i, h1⟩
        | bk => rw [nr_bk]; exact ⟨_, c1, D1, R1.setN i, h1⟩
        | ct => rw [nr_ct]; exact ⟨_, c1, D1, R1.setN i, h1⟩
        | rt d => rw [nr_rt]; exact ⟨_, c1, D1, R1.setN i, h1⟩
end
/-! defs -/
def startV (nn : Nat) (ds : List D) : VE := ds.map .val ++ List.replicate (nn - ds.length) .nil
def retV (Q : PD) (X : PX) : KS := fun f _ c => match f with
  | .rt d => Q d c
  | .nx => Q .non c
  | .rs e => X e c
  | _ => False
theorem start_re {dm : Option Nat} {g : G} (nn : Nat) (ds : List D) (hm : ∀ m ∈ dL dm, m < g.length) : Re dm g g (startV nn ds) (start0 nn ds) where
  len := by simp [startV, start0]
  sl := fun i ev e => by
    unfold startV at e
    unfold start0
    by_cases hi : i < ds.length
    · rw [List.getElem?_append_left (by simpa using hi), List.getElem?_map] at e
      rw [List.getElem?_append_left (by simpa using hi), List.getElem?_map]
      rw [List.getElem?_eq_getElem hi] at e ⊢
      cases e
      exact ⟨_, rfl, (fun _ q => by cases q; rfl), (fun _ q => by cases q)⟩
    · rw [List.getElem?_append_right (by simpa using hi)] at e
      rw [List.getElem?_append_right (by simpa using hi)]
      rw [List.getElem?_replicate] at e ⊢
      rw [List.length_map] at e ⊢
      split at e
      · rename_i h2
        cases e
        rw [if_pos h2]
        exact ⟨_, rfl, (fun _ q => by cases q), (fun _ q => by cases q)⟩
      · cases e
  inj := fun i j ev ev' o o' k e1 e2 q1 q2 h1 h2 => by
    have : ev ∈ startV nn ds := List.mem_of_getElem? e1
    unfold startV at this
    rcases List.mem_append.mp this with h | h
    · obtain ⟨d, _, rfl⟩ := List.mem_map.mp h
      cases q1
    · rw [List.eq_of_mem_replicate h] at q1
      cases q1
  dm := hm
  kp := .rfl'
  ob := fun i C ns vs e => by
    have : (EV.obj C ns vs) ∈ startV nn ds := List.mem_of_getElem? e
    unfold startV at this
    rcases List.mem_append.mp this with h | h
    · obtain ⟨d, _, q⟩ := List.mem_map.mp h
      cases q
    · have := List.eq_of_mem_replicate h
      cases this
theorem DX.lt {dm : Option Nat} {c : Nat} {g : G} (h : DX dm c g) : ∀ m ∈ dL dm, m < g.length := by
  intro m hm
  cases dm with
  | none => cases hm
  | some a =>
    have : m = a := by simpa [dL] using hm
    subst this
    exact Dr.lt h
/-- a def's calls, by its body -/
theorem vc_dfl (SO : SpsOk T dm S) {f : Str} {d : Def} {ds : List D} {c : Nat} {Q : PD} {X : PX} (e : T.defs.lookup f = some d) (hl : ds.length ≤ d.ar ∧ d.ar ≤ ds.length + d.df.length) (h : wSs T n dm S d.body (startV d.nn (ds ++ d.df.drop (ds.length + d.df.length - d.ar))) c (retV Q X)) : VC T (n + 1) dm f ds c Q X := by
  intro g hD
  rw [call_dfl e hl]
  refine (vSs SO d.body _ c _ h g g _ hD (start_re _ _ hD.lt)).seq fun x g1 ⟨ρ1, c1, D1, R1, h1⟩ => ?_
  obtain ⟨f, ρh1⟩ := x
  cases f with
  | nx => rw [rt_nx]; exact ⟨c1, D1, R1.kp, h1⟩
  | rt d => rw [rt_rt]; exact ⟨c1, D1, R1.kp, h1⟩
  | rs e => rw [rt_rs]; exact ⟨c1, D1, R1.kp, h1⟩
  | bk => exact h1.elim
  | ct => exact h1.elim
theorem vc_def (SO : SpsOk T dm S) {f : Str} {d : Def} {ds : List D} {c : Nat} {Q : PD} {X : PX} (e : T.defs.lookup f = some d) (hl : ds.length = d.ar) (h : wSs T n dm S d.body (startV d.nn ds) c (retV Q X)) : VC T (n + 1) dm f ds c Q X := by
  refine vc_dfl SO e ⟨by omega, by omega⟩ ?_
  rw [show ds.length + d.df.length - d.ar = d.df.length by omega, List.drop_length, List.append_nil]
  exact h
def S0 : Sps := fun _ => .pure
theorem so_0 : SpsOk T dm S0 := fun f r w h => by cases h
theorem pr_vc {f : Str} {ds : List D} {d : D} (h : VC T n none f ds 0 (fun d' _ => d' = d) fun _ _ => False) : PR T n f ds d := fun g => (h g trivial).mono (fun d' g' ⟨c, _, k, e⟩ => ⟨k, e⟩) fun e g' ⟨c, _, _, z⟩ => z
theorem prx_vc {f : Str} {ds : List D} {x : Exn} (h : VC T n none f ds 0 (fun _ _ => False) fun e _ => e = x) : PRX T n f ds x := fun g => (h g trivial).mono (fun d' g' ⟨c, _, _, z⟩ => z) fun e g' ⟨c, _, k, e⟩ => ⟨k, e⟩
theorem pr_def {f : Str} {d : Def} {ds : List D} {r : D} (e : T.defs.lookup f = some d) (hl : ds.length = d.ar) (h : wSs T n none S0 d.body (startV d.nn ds) 0 (retV (fun d' _ => d' = r) fun _ _ => False)) : PR T (n + 1) f ds r := pr_vc (vc_def so_0 e hl h)
theorem prx_def {f : Str} {d : Def} {ds : List D} {x : Exn} (e : T.defs.lookup f = some d) (hl : ds.length = d.ar) (h : wSs T n none S0 d.body (startV d.nn ds) 0 (retV (fun _ _ => False) fun e _ => e = x)) : PRX T (n + 1) f ds x := prx_vc (vc_def so_0 e hl h)
/-- two answers are one -/
theorem PR.uniq {f : Str} {ds : List D} {d d' : D} (h : PR T n f ds d) (h' : PR T n f ds d') : d = d' := by
  obtain ⟨a, g, e, q⟩ := (h []).get
  have h2 := h' []
  rw [e, Ok_ok] at h2
  rw [← q.2, h2.2]
theorem PR.nox {f : Str} {ds : List D} {d : D} {x : Exn} (h : PR T n f ds d) (h' : PRX T n f ds x) : False := by
  obtain ⟨a, g, e, q⟩ := (h []).get
  have h2 := h' []
  rw [e, Ok_ok] at h2
  exact h2
theorem PRX.get {f : Str} {ds : List D} {x : Exn} (h : PRX T n f ds x) : ∃ g, (cfN T n).call f ds [] = .ex x g := by
  have h := h []
  cases e : (cfN T n).call f ds [] with
  | ok a g => rw [e, Ok_ok] at h; exact h.elim
  | ex y g => rw [e, Ok_ex] at h; rw [h.2]; exact ⟨g, rfl⟩
  | bad => rw [e, Ok_bad] at h; exact h.elim
theorem PRX.uniq {f : Str} {ds : List D} {d d' : Exn} (h : PRX T n f ds d) (h' : PRX T n f ds d') : d = d' := by
  obtain ⟨g, e⟩ := h.get
  have h2 := h' []
  rw [e, Ok_ex] at h2
  exact h2.2
theorem PR.call {f : Str} {ds : List D} {d : D} {Q : D → Prop} {X : Exn → Prop} (h : PR T n f ds d) : PCall T n f ds Q X = Q d := by
  unfold PCall
  refine propext ⟨?_, fun q => .inl ⟨d, h, q⟩⟩
  rintro (⟨d', h', q⟩ | ⟨x, h', q⟩)
  · rw [h.uniq h']; exact q
  · exact (h.nox h').elim
theorem PRX.call {f : Str} {ds : List D} {x : Exn} {Q : D → Prop} {X : Exn → Prop} (h : PRX T n f ds x) : PCall T n f ds Q X = X x := by
  unfold PCall
  refine propext ⟨?_, fun q => .inr ⟨x, h, q⟩⟩
  rintro (⟨d', h', q⟩ | ⟨x', h', q⟩)
  · exact (h'.nox h).elim
  · rw [h.uniq h']; exact q
/-! objects -/
def retM (Q : PD) (X : PX) : KS := fun f ρ c => match f with
  | .rt .non => (match slV ρ 0 with
    | .obj C ns vs => Q (.obj C ns vs) c
    | _ => False)
  | .nx => (match slV ρ 0 with
    | .obj C ns vs => Q (.obj C ns vs) c
    | _ => False)
  | .rs e => X e c
  | _ => False
def startM (nn : Nat) (C : Str) (ds : List D) : VE := .obj C [] [] :: ds.map .val ++ List.replicate (nn - (ds.length + 1)) .nil
theorem startM_re {dm : Option Nat} {g : G} (nn : Nat) (C : Str) (ds : List D) (hm : ∀ m ∈ dL dm, m < g.length) : Re dm g (g ++ [.ins C [] []]) (startM nn C ds) (start0 nn (.ref g.length :: ds)) := by
  have R := start_re (dm := dm) nn (.ref g.length :: ds) (g := g) hm
  have R2 : Re dm g (g ++ [.ins C [] []]) (startV nn (.ref g.length :: ds)) (start0 nn (.ref g.length :: ds)) := R.keep .app
  have e1 : startM nn C ds = (startV nn (.ref g.length :: ds)).set 0 (.obj C [] []) := by
    simp [startM, startV]
  refine ⟨?_, ?_, ?_, R2.dm, R2.kp, ?_⟩
  · rw [e1, List.length_set]; exact R2.len
  · intro i ev e
    rw [e1] at e
    rcases set_get e with ⟨rfl, rfl, hi⟩ | ⟨hn, e⟩
    · exact ⟨_, rfl, (fun _ q => by cases q), (fun _ q => by cases q; exact ⟨g.length, rfl, q_last, Nat.le_refl _⟩)⟩
    · exact R2.sl i ev e
  · intro i j ev ev' o o' k e1' e2' q1 q2 h1 h2
    rw [e1] at e1' e2'
    have f : ∀ (i : Nat) (ev : EV) (o : O), ((startV nn (.ref g.length :: ds)).set 0 (.obj C [] []))[i]? = some ev → ev.o = some o → i = 0 := by
      intro i ev o e q
      rcases set_get e with ⟨rfl, _, _⟩ | ⟨hn, e⟩
      · rfl
      · have := List.mem_of_getElem? e
        unfold startV at this
        rcases List.mem_append.mp this with h | h
        · obtain ⟨d, _, rfl⟩ := List.mem_map.mp h
          cases q
        · rw [List.eq_of_mem_replicate h] at q
          cases q
    rw [f i ev o e1' q1, f j ev' o' e2' q2]
  · intro i C' ns vs e
    rw [e1] at e
    rcases set_get e with ⟨rfl, q, _⟩ | ⟨hn, e⟩
    · rfl
    · exact R2.ob i C' ns vs e
theorem mk_end {dm : Option Nat} {g g1 : G} {ρ : VE} {ρh : Env'} {c : Nat} {C : Str} {ns : List Str} {vs : List D} {Q : D → G → Prop} {E : Exn → G → Prop} (R : Re dm g g1 ρ ρh) (h : slV ρ 0 = .obj C ns vs) (q : Keep (dL dm) g (g1.set g.length .gone) → Q (.obj C ns vs) (g1.set g.length .gone)) : Ok (endO true g.length g1) Q E := by
  obtain ⟨e1, k, hs, hk, ek, hg⟩ := R.getO h rfl
  have := R.ob 0 C ns vs e1
  rw [hk] at this
  cases this
  rw [x_endT, ek]
  exact q (R.kp.setIn (.inr (Nat.le_refl _)))
theorem mk_body {f : Str} {d : Def} {C : Str} {ds : List D} {Q : PD} {X : PX} (e : T.defs.lookup f = some d) (hl : ds.length + 1 ≤ d.ar ∧ d.ar ≤ ds.length + 1 + d.df.length) (h : wSs T n none S0 d.body (startM d.nn C (ds ++ d.df.drop (ds.length + 1 + d.df.length - d.ar))) 0 (retM Q X)) (g : G) : mkO T (n + 1) f C ds g (fun d' g' => Keep [] g g' ∧ ∃ c, Q d' c) fun e g' => Keep [] g g' ∧ ∃ c, X e c := by
  unfold mkO
  rw [call_dfl e (by rw [List.length_cons]; omega)]
  refine (vSs so_0 d.body _ 0 _ h g _ _ (trivial : DX none 0 _) (startM_re _ _ _ (fun _ z => by cases z))).seq fun x g1 ⟨ρ1, c1, D1, R1, h1⟩ => ?_
  obtain ⟨f, ρh1⟩ := x
  have end_ : (match slV ρ1 0 with
    | .obj C ns vs => Q (.obj C ns vs) c1
    | _ => False) → Ok (endO true g.length g1) (fun d' g' => Keep [] g g' ∧ ∃ c, Q d' c) (fun e g' => Keep [] g g' ∧ ∃ c, X e c) := by
    intro h
    cases hs : slV ρ1 0 <;> rw [hs] at h <;> first | exact h.elim | skip
    exact mk_end (c := c1) R1 hs fun k => ⟨k, c1, h⟩
  cases f with
  | nx => rw [rt_nx]; exact end_ h1
  | rt d => rw [rt_rt]; cases d <;> first | exact h1.elim | exact end_ h1
  | rs e => rw [rt_rs]; exact ⟨R1.kp, c1, h1⟩
  | bk => exact h1.elim
  | ct => exact h1.elim
theorem mkO_mono {key C : Str} {ds : List D} {g : G} {Q Q' : D → G → Prop} {E E' : Exn → G → Prop} (h : mkO T n key C ds g Q E) (k : ∀ d g', Q d g' → Q' d g') (k' : ∀ e g', E e g' → E' e g') : mkO T n key C ds g Q' E' := by
  unfold mkO at h ⊢
  refine h.mono (fun r g' z => ?_) k'
  cases r <;> first | exact z.elim | exact z.mono k k'
theorem pm_def {f : Str} {d : Def} {C : Str} {ds : List D} {r : D} (e : T.defs.lookup f = some d) (hl : ds.length + 1 ≤ d.ar ∧ d.ar ≤ ds.length + 1 + d.df.length) (h : wSs T n none S0 d.body (startM d.nn C (ds ++ d.df.drop (ds.length + 1 + d.df.length - d.ar))) 0 (retM (fun d' _ => d' = r) fun _ _ => False)) : PM T (n + 1) f C ds r := fun g => mkO_mono (mk_body e hl h g) (fun d g' ⟨a, _, b⟩ => ⟨a, b⟩) fun e g' ⟨_, _, z⟩ => z
theorem pmx_def {f : Str} {d : Def} {C : Str} {ds : List D} {x : Exn} (e : T.defs.lookup f = some d) (hl : ds.length + 1 ≤ d.ar ∧ d.ar ≤ ds.length + 1 + d.df.length) (h : wSs T n none S0 d.body (startM d.nn C (ds ++ d.df.drop (ds.length + 1 + d.df.length - d.ar))) 0 (retM (fun _ _ => False) fun e _ => e = x)) : PMX T (n + 1) f C ds x := fun g => mkO_mono (mk_body e hl h g) (fun d g' ⟨_, _, z⟩ => z) fun e g' ⟨a, _, b⟩ => ⟨a, b⟩
theorem mkO_det {key C : Str} {ds : List D} {Q : D → G → Prop} {E : Exn → G → Prop} (h : mkO T n key C ds [] Q E) : (∃ d g, Q d g ∧ ∀ Q' E', mkO T n key C ds [] Q' E' → Q' d g) ∨ ∃ e g, E e g ∧ ∀ Q' E', mkO T n key C ds [] Q' E' → E' e g := by
  unfold mkO at h ⊢
  cases e : (cfN T n).call key (.ref (List.length ([] : G)) :: ds) ([] ++ [.ins C [] []]) with
  | bad => rw [e, Ok_bad] at h; exact h.elim
  | ex x g =>
    rw [e, Ok_ex] at h
    exact .inr ⟨x, g, h, fun Q' E' h' => by rw [Ok_ex] at h'; exact h'⟩
  | ok r g =>
    rw [e, Ok_ok] at h
    cases r <;> first | exact h.elim | skip
    cases e2 : endO true (List.length ([] : G)) g with
    | bad => rw [e2, Ok_bad] at h; exact h.elim
    | ex x g2 =>
      rw [e2, Ok_ex] at h
      refine .inr ⟨x, g2, h, fun Q' E' h' => ?_⟩
      rw [Ok_ok] at h'
      rw [e2, Ok_ex] at h'
      exact h'
    | ok d g2 =>
      rw [e2, Ok_ok] at h
      refine .inl ⟨d, g2, h, fun Q' E' h' => ?_⟩
      rw [Ok_ok] at h'
      rw [e2, Ok_ok] at h'
      exact h'
theorem PM.mk {key C : Str} {ds : List D} {d : D} {Q : D → Prop} {X : Exn → Prop} (h : PM T n key C ds d) : PMk T n key C ds Q X = Q d := by
  unfold PMk
  refine propext ⟨?_, fun q => .inl ⟨d, h, q⟩⟩
  rcases mkO_det (h []) with ⟨d1, g1, a, b⟩ | ⟨_, _, z, _⟩
  · rintro (⟨d', h', q⟩ | ⟨x, h', q⟩)
    · have := (b _ _ (h' [])).2
      rw [← a.2, this]; exact q
    · exact (b _ _ (h' [])).elim
  · exact z.elim
theorem PMX.mk {key C : Str} {ds : List D} {x : Exn} {Q : D → Prop} {X : Exn → Prop} (h : PMX T n key C ds x) : PMk T n key C ds Q X = X x := by
  unfold PMk
  refine propext ⟨?_, fun q => .inr ⟨x, h, q⟩⟩
  rcases mkO_det (h []) with ⟨_, _, z, _⟩ | ⟨e1, g1, a, b⟩
  · exact z.elim
  · rintro (⟨d', h', q⟩ | ⟨x', h', q⟩)
    · exact (b _ _ (h' [])).elim
    · have := (b _ _ (h' [])).2
      rw [← a.2, this]; exact q
end
end DL

set_option Elab.async false
set_option linter.all false
set_option maxRecDepth 100000
set_option maxHeartbeats 4000000
/-! the value layer: tools -/
namespace DL
open PySem PySem.Spec L2

section
variable {T : Tb} {n : Nat} {dm : Option Nat} {S Z : Sps} {ρ : VE} {c : Nat} {K : KS} {Q : PD} {X : PX} {ev : EV} {d x : D}
/-- something is worked out first -/
def LT {α : Type} (x : α) (k : α → Prop) (t : Fx k := .mk) : Prop := k x
theorem lt_c {ev : EV} {ρ : VE} {k : VE → Prop} {t : Fx k} : LT (ev :: ρ) k t = k (ev :: ρ) := by with_unfolding_all rfl
theorem lt_n {k : VE → Prop} {t : Fx k} : LT ([] : VE) k t = k [] := by with_unfolding_all rfl
theorem lt_v {d : D} {k : EV → Prop} {t : Fx k} : LT (EV.val d) k t = k (.val d) := by with_unfolding_all rfl
theorem lt_l {xs : List D} {k : EV → Prop} {t : Fx k} : LT (EV.lst xs) k t = k (.lst xs) := by with_unfolding_all rfl
theorem lt_d {xs ys : List D} {k : EV → Prop} {t : Fx k} : LT (EV.dct xs ys) k t = k (.dct xs ys) := by with_unfolding_all rfl
theorem lt_o {C : Str} {ns : List Str} {ys : List D} {k : EV → Prop} {t : Fx k} : LT (EV.obj C ns ys) k t = k (.obj C ns ys) := by with_unfolding_all rfl
theorem kd_s {x : Str} : kD (.a (.inr x)) = .str x := by with_unfolding_all rfl
theorem kd_i {x : Int} : kD (.a (.inl x)) = .int x := by with_unfolding_all rfl
theorem kd_t {x : List TK} : kD (.t x) = .tup (kDs x) := by with_unfolding_all rfl
theorem kds_n : kDs [] = [] := by with_unfolding_all rfl
theorem kds_c {x : TK} {xs : List TK} : kDs (x :: xs) = kD x :: kDs xs := by with_unfolding_all rfl
theorem ood_some {α : Type} {a : α} {P : α → Prop} {t : Fx P} : OOd (some a) P t = P a := by
  unfold OOd
  rw [OO_some]
theorem ood_none {α : Type} {P : α → Prop} {t : Fx P} : OOd (none : Option α) P t = False := by
  unfold OOd
  rw [OO_none]
theorem ood_oo {α : Type} {o : Option α} {P : α → Prop} {t : Fx P} : OOd o P t = OO o P := by with_unfolding_all rfl
theorem ood_map {α β : Type} {f : β → α} {o : Option β} {P : α → Prop} {t : Fx P} : OOd (o.map f) P t = OOd o fun b => P (f b) := by
  unfold OOd
  rw [OO_map]
section
variable {i j : Int} {x y : Str} {xs ys : List D} {a b : D} {P : D → Prop} {PB : Bool → Prop} {t : Fx P} {tb : Fx PB} {kd : Str → Str → Option D} {lo hi : Option Int}
theorem q_mul : OOd (op2 .mul (.int i) (.int j)) P t = (mulOk i j ∧ P (.int (i * j))) := p_mul
theorem q_fdiv : OOd (op2 .fdiv (.int i) (.int j)) P t = (divOk j ∧ P (.int (i / j))) := p_fdiv
theorem q_mod : OOd (op2 .mod (.int i) (.int j)) P t = (0 < j ∧ P (.int (i % j))) := p_mod
theorem q_pow : OOd (op2 .pow (.int i) (.int j)) P t = ((0 ≤ j ∧ j ≤ 1000000 ∧ i.natAbs < 2 ^ 64) ∧ P (.int (i ^ j.toNat))) := p_pow
theorem q_addS : OOd (op2 .add (.str x) (.str y)) P t = (Fits (x.length + y.length) ∧ P (.str (x ++ y))) := p_addS
theorem q_addT : OOd (op2 .add (.tup xs) (.tup ys)) P t = (Fits (xs.length + ys.length) ∧ P (.tup (xs ++ ys))) := p_addT
theorem q_addL : OOd (op2 .add (.lst xs) (.lst ys)) P t = (Fits (xs.length + ys.length) ∧ P (.lst (xs ++ ys))) := p_addL
theorem q_ne : OOd (cmpD .ne a b) PB tb = OOd (eqD a b) fun k => PB (!k) := c_ne
theorem q_nin : OOd (cmpD .notin a b) PB tb = OOd (inD a b) fun k => PB (!k) := c_nin
theorem q_dS : OOd (ixD kd (.dct xs ys) (.str x)) P t = (atomsB xs = true ∧ OOd (dlook xs ys (.a (.inr x))) P) := i_dS
theorem q_dI : OOd (ixD kd (.dct xs ys) (.int i)) P t = (atomsB xs = true ∧ OOd (dlook xs ys (.a (.inl i))) P) := i_dI
theorem q_ixs : OOd (ixD kd (.str x) (.int i)) P t = (Fits x.length ∧ OOd (atI x.cps.toList i) fun c => P (.str ⟨#[c]⟩)) := i_str
theorem q_sls : OOd (slD (.str x) lo hi) P t = (Fits x.length ∧ P (.str (cutStr x lo hi))) := s_str
theorem q_tru : OOd (truD (.str x)) PB tb = (Fits x.length ∧ PB ((x.length : Int) != 0)) := t_str
theorem q_inS : OOd (inD (.str x) (.dct xs ys)) PB tb = (atomsB xs = true ∧ PB (dlook xs ys (.a (.inr x))).isSome) := in_dS
theorem q_inI : OOd (inD (.int i) (.dct xs ys)) PB tb = (atomsB xs = true ∧ PB (dlook xs ys (.a (.inl i))).isSome) := in_dI
theorem q_inK {k : TK} (h : keyOf a = some k) : OOd (inD a (.dct xs ys)) PB tb = (okK xs k = true ∧ PB (dlook xs ys k).isSome) := in_dK h
theorem q_ixK {k : TK} (h : keyOf a = some k) : OOd (ixD kd (.dct xs ys) a) P t = (okK xs k = true ∧ OOd (dlook xs ys k) P) := i_dK h
end
theorem sl_0 : slV (ev :: ρ) 0 = ev := by with_unfolding_all rfl
theorem sl_s {i : Nat} : slV (ev :: ρ) (i + 1) = slV ρ i := by with_unfolding_all rfl
theorem sl_n {i : Nat} : slV [] i = .nil := by with_unfolding_all rfl
theorem v_v : (EV.val d).v = some d := by with_unfolding_all rfl
theorem v_d : (EV.val d).d = some d := by with_unfolding_all rfl
theorem v_dl {xs : List D} : (EV.lst xs).d = some (.lst xs) := by with_unfolding_all rfl
theorem v_dd {ks vs : List D} : (EV.dct ks vs).d = some (.dct ks vs) := by with_unfolding_all rfl
theorem v_do {C : Str} {ns : List Str} {vs : List D} : (EV.obj C ns vs).d = some (.obj C ns vs) := by with_unfolding_all rfl
theorem v_vl {xs : List D} : (EV.lst xs).v = none := by with_unfolding_all rfl
theorem v_vd {ks vs : List D} : (EV.dct ks vs).v = none := by with_unfolding_all rfl
theorem v_vo {C : Str} {ns : List Str} {vs : List D} : (EV.obj C ns vs).v = none := by with_unfolding_all rfl
theorem v_n : EV.nil.v = none := by with_unfolding_all rfl
theorem v_dn : EV.nil.d = none := by with_unfolding_all rfl
theorem ho_l {xs : List D} : hasO (.lst xs) = true := by with_unfolding_all rfl
theorem ho_d {ks vs : List D} : hasO (.dct ks vs) = true := by with_unfolding_all rfl
theorem il_l {xs : List D} : isL (.lst xs) = true := by with_unfolding_all rfl
theorem thv_nx {k : VE → Nat → Prop} : thV K k .nx ρ c = k ρ c := by with_unfolding_all rfl
theorem thv_bk {k : VE → Nat → Prop} : thV K k .bk ρ c = K .bk ρ c := by with_unfolding_all rfl
theorem thv_ct {k : VE → Nat → Prop} : thV K k .ct ρ c = K .ct ρ c := by with_unfolding_all rfl
theorem thv_rt {k : VE → Nat → Prop} : thV K k (.rt d) ρ c = K (.rt d) ρ c := by with_unfolding_all rfl
theorem thv_rs {k : VE → Nat → Prop} {e : Exn} : thV K k (.rs e) ρ c = K (.rs e) ρ c := by with_unfolding_all rfl
theorem rtv_rt : retV Q X (.rt d) ρ c = Q d c := by with_unfolding_all rfl
theorem rtv_nx : retV Q X .nx ρ c = Q .non c := by with_unfolding_all rfl
theorem rtv_rs {e : Exn} : retV Q X (.rs e) ρ c = X e c := by with_unfolding_all rfl
theorem nrv_nx : noRV K .nx ρ c = K .nx ρ c := by with_unfolding_all rfl
theorem nrv_rt : noRV K (.rt d) ρ c = K (.rt d) ρ c := by with_unfolding_all rfl
theorem nrv_bk : noRV K .bk ρ c = K .bk ρ c := by with_unfolding_all rfl
theorem nrv_ct : noRV K .ct ρ c = K .ct ρ c := by with_unfolding_all rfl
theorem w_T_vl {i : Nat} {k : VE → Prop} : wT (.v i) d ρ k = LT (ρ.set i (.val d)) k := w_T_v
theorem w_S_parl {is : List Nat} {es : Es} : wS T n dm Z (.par is es) ρ c K = (wPar T n dm Z es ρ c (fun ds c => OOd (parV is ds ρ) fun ρ => LT ρ fun ρ => K .nx ρ c) fun e c => K (.rs e) ρ c) := w_S_par
theorem w_S_augvl {i : Nat} {op : Op2} {a : E} : wS T n dm Z (.augv i op a) ρ c K = (OOd (slV ρ i).v fun x => wE T n dm Z a false ρ c (fun y c => OOd (aug2 op x y) fun z => LT (ρ.set i (.val z)) fun ρ => K .nx ρ c) fun e c => K (.rs e) ρ c) := w_S_augv
theorem w_S_frzl {i : Nat} : wS T n dm Z (.frz i) ρ c K = (OOd (frzV (slV ρ i)) fun d => LT (ρ.set i (.val d)) fun ρ => K .nx ρ c) := w_S_frz
theorem w_Ss_one {s : DL.S} : wSs T n dm Z (.cons s .nil) ρ c K = wS T n dm Z s ρ c K := by
  rw [w_Ss_cons]
  congr 1
  funext f ρ c
  cases f <;> first | rfl | (show wSs T n dm Z .nil ρ c K = _; rw [w_Ss_nil])
theorem w_Ss_two {s s2 : DL.S} {ss : Ss} : wSs T n dm Z (.cons s (.cons s2 ss)) ρ c K = wS T n dm Z s ρ c (thV K fun ρ c => wSs T n dm Z (.cons s2 ss) ρ c K) := w_Ss_cons
theorem vcall0 {f : Str} {ds : List D} : VCall T n dm S0 f ds c Q X = PCall T n f ds (fun d => Q d c) fun e => X e c := by with_unfolding_all rfl
theorem w_X_app {i : Nat} {e : E} : wX T n dm Z (.mt .append (.v i) (.cons e .nil)) ρ c K = (isL (slV ρ i) = true ∧ wE T n dm Z e false ρ c (fun y c => LT (slV ρ i) fun ev => appV ρ i y (fun ρ => K .nx ρ c) ev) fun e c => K (.rs e) ρ c) := by with_unfolding_all rfl
theorem w_X_ext {i : Nat} {e : E} : wX T n dm Z (.mt .extend (.v i) (.cons e .nil)) ρ c K = (isL (slV ρ i) = true ∧ isMut e = true ∧ wE T n dm Z e true ρ c (fun y c => LT (slV ρ i) fun ev => extV ρ i y (fun ρ => K .nx ρ c) ev) fun e c => K (.rs e) ρ c) := by with_unfolding_all rfl
theorem w_X_call {f : Str} {es : Es} : wX T n dm Z (.call f es) ρ c K = wE T n dm Z (.call f es) false ρ c (fun _ c => K .nx ρ c) fun e c => K (.rs e) ρ c := by with_unfolding_all rfl
theorem w_X_own {m : Str} {o : E} {es : Es} : wX T n dm Z (.own m o es) ρ c K = wE T n dm Z (.own m o es) false ρ c (fun _ c => K .nx ρ c) fun e c => K (.rs e) ρ c := by with_unfolding_all rfl
theorem w_X_mk {b : Bool} {C : Str} {es : Es} : wX T n dm Z (.mk b C es) ρ c K = wE T n dm Z (.mk b C es) false ρ c (fun _ c => K .nx ρ c) fun e c => K (.rs e) ρ c := by with_unfolding_all rfl
theorem w_A_v {i : Nat} {a : E} : wA T n dm Z (.v i) a ρ c K = wE T n dm Z a (isMut a) ρ c (fun d c => LT (ρ.set i (evOf a d)) fun ρ => K .nx ρ c) fun e c => K (.rs e) ρ c := by with_unfolding_all rfl
theorem w_A_ix {i : Nat} {a b : E} : wA T n dm Z (.ix (.v i) b) a ρ c K = wE T n dm Z a false ρ c (fun d c => hasO (slV ρ i) = true ∧ wE T n dm Z b false ρ c (fun y c => LT (slV ρ i) fun ev => setV ρ i y d (fun ρ => K .nx ρ c) ev) fun _ _ => False) fun e c => K (.rs e) ρ c := by with_unfolding_all rfl
theorem w_A_fld {i : Nat} {a : E} {f : Str} : wA T n dm Z (.fld (.v i) f) a ρ c K = wE T n dm Z a false ρ c (fun d c => LT (slV ρ i) fun ev => setFV T ρ i f d (fun ρ => K .nx ρ c) ev) fun e c => K (.rs e) ρ c := by with_unfolding_all rfl
theorem w_A_tup {ts : Tgs} {a : E} : wA T n dm Z (.tup ts) a ρ c K = wE T n dm Z a false ρ c (fun d c => wT (.tup ts) d ρ fun ρ => K .nx ρ c) fun e c => K (.rs e) ρ c := by with_unfolding_all rfl
theorem par_nil {q : List EV → Nat → Prop} : wPar T n dm Z .nil ρ c q X = q [] c := by with_unfolding_all rfl
theorem par_cons {e : E} {es : Es} {q : List EV → Nat → Prop} : wPar T n dm Z (.cons e es) ρ c q X = wE T n dm Z e (isMut e) ρ c (fun x c => wPar T n dm Z es ρ c (fun xs c => q (evOf e x :: xs) c) X) X := by with_unfolding_all rfl
theorem app_l {i : Nat} {y : D} {k : VE → Prop} {xs : List D} : appV ρ i y k (.lst xs) = (xs.length < sizeLine ∧ LT (ρ.set i (.lst (xs ++ [y]))) k) := by with_unfolding_all rfl
theorem ext_l {i : Nat} {y : D} {k : VE → Prop} {xs : List D} : extV ρ i y k (.lst xs) = lstO (fun ys => xs.length + ys.length ≤ sizeLine ∧ LT (ρ.set i (.lst (xs ++ ys))) k) y := by with_unfolding_all rfl
theorem set_l {i : Nat} {y : D} {k : VE → Prop} {xs : List D} : setV ρ i y d k (.lst xs) = intV y fun j => OOd (ixN xs.length j) fun j => LT (ρ.set i (.lst (xs.set j d))) k := by with_unfolding_all rfl
theorem set_d {i : Nat} {y : D} {k : VE → Prop} {ks vs : List D} : setV ρ i y d k (.dct ks vs) = OOd (keyOf y) fun q => (ks.length < sizeLine ∧ okK ks q = true) ∧ LT (ρ.set i (.dct (dput ks vs q d).1 (dput ks vs q d).2)) k := by with_unfolding_all rfl
theorem setf_o {i : Nat} {f : Str} {k : VE → Prop} {C : Str} {ns : List Str} {vs : List D} : setFV T ρ i f d k (.obj C ns vs) = (T.fld C f = true ∧ ns.length < 40 ∧ LT (ρ.set i (.obj C (fput ns vs f d).1 (fput ns vs f d).2)) k) := by with_unfolding_all rfl
theorem fldv_o {f : Str} {C : Str} {ns : List Str} {vs : List D} {P : D → Prop} : fldV T f (.obj C ns vs) P = (T.fld C f = true ∧ OOd (flook ns vs f) P) := by with_unfolding_all rfl
theorem intv_i {i : Int} {P : Int → Prop} : intV (.int i) P = P i := by with_unfolding_all rfl
theorem seqv_l {xs : List D} {P : List D → Prop} : seqV (.lst xs) P = P xs := by with_unfolding_all rfl
theorem seqv_t {xs : List D} {P : List D → Prop} : seqV (.tup xs) P = P xs := by with_unfolding_all rfl
theorem itv_l {xs : List D} {P : List D → Prop} : itV (.lst xs) P = P xs := by with_unfolding_all rfl
theorem itv_t {xs : List D} {P : List D → Prop} : itV (.tup xs) P = P xs := by with_unfolding_all rfl
theorem itv_s {x : Str} {P : List D → Prop} : itV (.str x) P = P (signsD x) := by with_unfolding_all rfl
theorem itv_d {ks vs : List D} {P : List D → Prop} : itV (.dct ks vs) P = (atomsB ks = true ∧ P ks) := by with_unfolding_all rfl
theorem itms_d {ks vs : List D} {P : List D → List D → Prop} : itemsV (.dct ks vs) P = (atomsB ks = true ∧ P ks vs) := by with_unfolding_all rfl
theorem zipv_l {xs ys : List D} {P : List D → Prop} : zipV (.lst xs) (.lst ys) P = P (zipD xs ys) := by with_unfolding_all rfl
theorem zipv_t {xs ys : List D} {P : List D → Prop} : zipV (.tup xs) (.tup ys) P = P (zipD xs ys) := by with_unfolding_all rfl
theorem lc_nil {body : D → Nat → (Option D → Nat → Prop) → Prop} {xs : List D} {k : List D → Nat → Prop} : wLC body [] xs c k = k xs c := by with_unfolding_all rfl
theorem lc_cons {body : D → Nat → (Option D → Nat → Prop) → Prop} {ds xs : List D} {k : List D → Nat → Prop} : wLC body (d :: ds) xs c k = body d c fun o c => match o with
    | none => wLC body ds xs c k
    | some y => wLC body ds (xs ++ [y]) c k := by with_unfolding_all rfl
theorem lcd_nil {body : D → Nat → (Option D → Nat → Prop) → Prop} {xs : List D} {k : List D → Nat → Prop} {t : Fx (body, k)} : wLCd body [] xs c k t = k xs c := by with_unfolding_all rfl
theorem lcd_cons {body : D → Nat → (Option D → Nat → Prop) → Prop} {ds xs : List D} {k : List D → Nat → Prop} {t : Fx (body, k)} : wLCd body (d :: ds) xs c k t = body d c fun o c => match o with
    | none => wLCd body ds xs c k
    | some y => wLCd body ds (xs ++ [y]) c k := by
  show body d c _ = body d c _
  congr 1
theorem for_nil {body : D → VE → Nat → KS → Prop} : wFor body K [] ρ c = K .nx ρ c := by with_unfolding_all rfl
/-- where a loop's turn goes on -/
def nxt (K : KS) (k : VE → Nat → Prop) : KS := fun f ρ c => match f with
  | .nx => k ρ c
  | .ct => k ρ c
  | .bk => K .nx ρ c
  | f => K f ρ c
theorem for_cons {body : D → VE → Nat → KS → Prop} {ds : List D} : wFor body K (d :: ds) ρ c = body d ρ c (nxt K fun ρ c => wFor body K ds ρ c) := by with_unfolding_all rfl
theorem ford_nil {body : D → VE → Nat → KS → Prop} {t : Fx (body, K)} : wForD body K [] ρ c t = K .nx ρ c := by with_unfolding_all rfl
theorem ford_cons {body : D → VE → Nat → KS → Prop} {ds : List D} {t : Fx (body, K)} : wForD body K (d :: ds) ρ c t = body d ρ c (nxt K fun ρ c => wForD body K ds ρ c) := by with_unfolding_all rfl
theorem nxt_nx {k : VE → Nat → Prop} : nxt K k .nx ρ c = k ρ c := by with_unfolding_all rfl
theorem nxt_ct {k : VE → Nat → Prop} : nxt K k .ct ρ c = k ρ c := by with_unfolding_all rfl
theorem nxt_bk {k : VE → Nat → Prop} : nxt K k .bk ρ c = K .nx ρ c := by with_unfolding_all rfl
theorem nxt_rt {k : VE → Nat → Prop} : nxt K k (.rt d) ρ c = K (.rt d) ρ c := by with_unfolding_all rfl
theorem nxt_rs {k : VE → Nat → Prop} {e : Exn} : nxt K k (.rs e) ρ c = K (.rs e) ρ c := by with_unfolding_all rfl
theorem whl_s {cond : VE → Nat → (Bool → Nat → Prop) → PX → Prop} {body : VE → Nat → KS → Prop} {k : Nat} : wWhl cond body K (k + 1) ρ c = cond ρ c (fun b c => if b = true then body ρ c (nxt K fun ρ c => wWhl cond body K k ρ c) else K .nx ρ c) fun e c => K (.rs e) ρ c := by with_unfolding_all rfl
theorem cls_v {C : Str} {ns : List Str} {vs : List D} : clsV (.obj C ns vs) = some (C, ns) := by with_unfolding_all rfl
theorem isc_e {isi isx : Str → Str → Option Bool} {cs : List Str} {C : Str} {ns : List Str} {vs : List D} : iscV isi isx cs (.exc C ns vs) = isAny isx C cs := by with_unfolding_all rfl
theorem isc_o {isi isx : Str → Str → Option Bool} {cs : List Str} {C : Str} {ns : List Str} {vs : List D} : iscV isi isx cs (.obj C ns vs) = isAny isi C cs := by with_unfolding_all rfl
theorem non_n : nonB .non = true := by with_unfolding_all rfl
theorem non_i {i : Int} : nonB (.int i) = false := by with_unfolding_all rfl
theorem non_b {i : Bool} : nonB (.bl i) = false := by with_unfolding_all rfl
theorem non_s {i : Str} : nonB (.str i) = false := by with_unfolding_all rfl
theorem non_tu {xs : List D} : nonB (.tup xs) = false := by with_unfolding_all rfl
theorem non_l {xs : List D} : nonB (.lst xs) = false := by with_unfolding_all rfl
theorem non_d {xs ys : List D} : nonB (.dct xs ys) = false := by with_unfolding_all rfl
theorem non_e {C : Str} {ns : List Str} {vs : List D} : nonB (.exc C ns vs) = false := by with_unfolding_all rfl
theorem non_o {C : Str} {ns : List Str} {vs : List D} : nonB (.obj C ns vs) = false := by with_unfolding_all rfl
theorem mkev_l {xs : List D} : mkEV (.lst xs) = .lst xs := by with_unfolding_all rfl
theorem mkev_d {xs ys : List D} : mkEV (.dct xs ys) = .dct xs ys := by with_unfolding_all rfl
theorem frz_l {xs : List D} : frzV (.lst xs) = some (.lst xs) := by with_unfolding_all rfl
theorem frz_d {xs ys : List D} : frzV (.dct xs ys) = some (.dct xs ys) := by with_unfolding_all rfl
theorem bv_len {P : D → Prop} : biV .len [x] P = lenO P x := by with_unfolding_all rfl
theorem bv_tup {P : D → Prop} : biV .tuple [x] P = seqO (fun xs => P (.tup xs)) x := by with_unfolding_all rfl
theorem bv_lst {fz : Bool} {P : D → Prop} : biV (.list fz) [x] P = lsdO (fun xs => P (.lst xs)) x := by with_unfolding_all rfl
theorem bv_min {i j : Int} {P : D → Prop} : biV .min2 [.int i, .int j] P = P (.int (if j < i then j else i)) := by with_unfolding_all rfl
theorem bv_max {i j : Int} {P : D → Prop} : biV .max2 [.int i, .int j] P = P (.int (if j > i then j else i)) := by with_unfolding_all rfl
theorem bv_abs {i : Int} {P : D → Prop} : biV .abs [.int i] P = P (.int (if i < 0 then -i else i)) := by with_unfolding_all rfl
theorem bv_all {P : D → Prop} : biV .all [x] P = lstO (fun xs => OOd (boolsOf xs) fun bs => P (.bl (bs.all id))) x := by with_unfolding_all rfl
theorem bv_any {P : D → Prop} : biV .any [x] P = lstO (fun xs => OOd (boolsOf xs) fun bs => P (.bl (bs.any id))) x := by with_unfolding_all rfl
theorem bv_sum {P : D → Prop} : biV .sum [x] P = lstO (fun xs => OOd (intsOf xs) fun bs => P (.int bs.sum)) x := by with_unfolding_all rfl
theorem bv_sort {fz : Bool} {P : D → Prop} : biV (.sortI fz) [x] P = lstO (fun xs => OOd (intsOf xs) fun bs => bs.length < 64 ∧ P (.lst ((sortI bs).map .int))) x := by with_unfolding_all rfl
theorem bv_str {i : Int} {P : D → Prop} : biV .strI [.int i] P = (i.natAbs.log2 < 1920 ∧ P (.str (toString i))) := by with_unfolding_all rfl
theorem bv_dct {fz : Bool} {P : D → Prop} : biV (.dict fz) [x] P = dicO (fun ks vs => P (.dct ks vs)) x := by with_unfolding_all rfl
theorem mt_get {ks vs : List D} {k : D} {P : D → Prop} : mtV .get (.dct ks vs) [k] P = OOd (keyOf k) fun k => okK ks k = true ∧ P ((dlook ks vs k).getD .non) := by with_unfolding_all rfl
theorem mt_get2 {ks vs : List D} {k y : D} {P : D → Prop} : mtV .get (.dct ks vs) [k, y] P = OOd (keyOf k) fun k => okK ks k = true ∧ P ((dlook ks vs k).getD y) := by with_unfolding_all rfl
theorem mt_join {a : Str} {xs : List D} {P : D → Prop} : mtV .join (.str a) [.lst xs] P = OOd (strsOf xs) fun ys => (ys.map (·.length)).sum + ys.length * a.length ≤ 16777216 ∧ P (.str (Txt.join a ys)) := by with_unfolding_all rfl
theorem mt_split {a b : Str} {P : D → Prop} : mtV (.split true) (.str a) [.str b] P = (((b.length == 0) = false ∧ a.length + 2 ≤ sizeLine) ∧ P (.lst ((Txt.split a b).map .str))) := by with_unfolding_all rfl
theorem mt_upper {a : Str} {P : D → Prop} : mtV .upper (.str a) [] P = (a.length ≤ 5592405 ∧ P (.str (Txt.upper a))) := by with_unfolding_all rfl
theorem mt_count {xs : List D} {b : Bool} {P : D → Prop} : mtV .count (.lst xs) [.bl b] P = OOd (boolsOf xs) fun bs => P (.int (bs.filter (· == b)).length) := by with_unfolding_all rfl
theorem len_t {xs : List D} {P : D → Prop} : lenO P (.tup xs) = P (.int xs.length) := by with_unfolding_all rfl
theorem len_l {xs : List D} {P : D → Prop} : lenO P (.lst xs) = P (.int xs.length) := by with_unfolding_all rfl
theorem len_d {xs ys : List D} {P : D → Prop} : lenO P (.dct xs ys) = P (.int xs.length) := by with_unfolding_all rfl
theorem len_s {x : Str} {P : D → Prop} : lenO P (.str x) = (x.length ≤ sizeLine ∧ P (.int x.length)) := by with_unfolding_all rfl
theorem bfz_list {b : Bool} : bFz (.list b) = b := by with_unfolding_all rfl
theorem bfz_dict {b : Bool} : bFz (.dict b) = b := by with_unfolding_all rfl
theorem bfz_sort {b : Bool} : bFz (.sortI b) = b := by with_unfolding_all rfl
theorem slen_t {xs : List D} {P : D → Prop} : slenV (.tup xs) P = OOd (atomKs xs) fun ks => ks.length < 64 ∧ P (.int (seenK [] ks).length) := by with_unfolding_all rfl
theorem revv_t {xs : List D} {P : D → Prop} : revV (.tup xs) P = P (.tup xs.reverse) := by with_unfolding_all rfl
theorem tab_f {x : Str} {P : List (Str × D) → Prop} : tabV T (.fn x) P = OOd (T.kd.lookup x) P := by with_unfolding_all rfl
theorem get1_s {l : List (Str × D)} {z : Str} {P : D → Prop} : get1V l [.str z] P = P ((l.lookup z).getD .non) := by with_unfolding_all rfl
/-- a comprehension whose items each come to one thing -/
theorem lc_map {body : D → Nat → (Option D → Nat → Prop) → Prop} {k : List D → Nat → Prop} (f : D → Option D) : ∀ {ds xs : List D} {c : Nat}, (∀ d ∈ ds, ∀ c K, body d c K = K (f d) c) → wLC body ds xs c k = k (xs ++ ds.filterMap f) c
  | [], xs, c, _ => by rw [lc_nil, List.filterMap_nil, List.append_nil]
  | d :: ds, xs, c, h => by
    rw [lc_cons, h d (List.mem_cons_self ..), List.filterMap_cons]
    cases e : f d with
    | none => exact lc_map f fun d hd => h d (List.mem_cons_of_mem _ hd)
    | some y =>
      simp only
      rw [lc_map f fun d hd => h d (List.mem_cons_of_mem _ hd), List.append_assoc]
      rfl
/-- the same, of typed things -/
theorem lc_tfm {α : Type} {body : D → Nat → (Option D → Nat → Prop) → Prop} {k : List D → Nat → Prop} {enc : α → D} (f : α → Option D) {xs : List D} : ∀ {l : List α} {xs : List D} {c : Nat}, (∀ a ∈ l, ∀ c K, body (enc a) c K = K (f a) c) → wLC body (l.map enc) xs c k = k (xs ++ l.filterMap f) c
  | [], xs, c, _ => by rw [List.map_nil, lc_nil, List.filterMap_nil, List.append_nil]
  | a :: l, xs, c, h => by
    rw [List.map_cons, lc_cons, h a (List.mem_cons_self ..), List.filterMap_cons]
    cases e : f a with
    | none => exact lc_tfm (xs := xs) f fun d hd => h d (List.mem_cons_of_mem _ hd)
    | some y =>
      simp only
      rw [lc_tfm (xs := xs) f fun d hd => h d (List.mem_cons_of_mem _ hd), List.append_assoc]
      rfl
theorem lc_tmap {α : Type} {body : D → Nat → (Option D → Nat → Prop) → Prop} {k : List D → Nat → Prop} {enc : α → D} (f : α → D) : ∀ {l : List α} {xs : List D} {c : Nat}, (∀ a ∈ l, ∀ c K, body (enc a) c K = K (some (f a)) c) → wLC body (l.map enc) xs c k = k (xs ++ l.map f) c
  | [], xs, c, _ => by rw [List.map_nil, lc_nil, List.map_nil, List.append_nil]
  | a :: l, xs, c, h => by
    rw [List.map_cons, lc_cons, h a (List.mem_cons_self ..), List.map_cons]
    simp only
    rw [lc_tmap f fun d hd => h d (List.mem_cons_of_mem _ hd), List.append_assoc]
    rfl
theorem lcd_tfm {α : Type} {body : D → Nat → (Option D → Nat → Prop) → Prop} {k : List D → Nat → Prop} {enc : α → D} {t : Fx (body, k)} (f : α → Option D) {l : List α} {xs : List D} {c : Nat} (h : ∀ a ∈ l, ∀ c K, body (enc a) c K = K (f a) c) : wLCd body (l.map enc) xs c k t = k (xs ++ l.filterMap f) c := lc_tfm (xs := xs) f h
theorem lcd_tmap {α : Type} {body : D → Nat → (Option D → Nat → Prop) → Prop} {k : List D → Nat → Prop} {enc : α → D} {t : Fx (body, k)} (f : α → D) {l : List α} {xs : List D} {c : Nat} (h : ∀ a ∈ l, ∀ c K, body (enc a) c K = K (some (f a)) c) : wLCd body (l.map enc) xs c k t = k (xs ++ l.map f) c := lc_tmap f h
theorem lcd_map {body : D → Nat → (Option D → Nat → Prop) → Prop} {k : List D → Nat → Prop} {t : Fx (body, k)} (f : D → Option D) {ds xs : List D} {c : Nat} (h : ∀ d ∈ ds, ∀ c K, body d c K = K (f d) c) : wLCd body ds xs c k t = k (xs ++ ds.filterMap f) c := lc_map f h
/-- a comprehension by what holds between its turns -/
theorem lc_inv {body : D → Nat → (Option D → Nat → Prop) → Prop} {k : List D → Nat → Prop} {ds : List D} (P : Nat → List D → Nat → Prop) (h0 : P 0 [] c) (hs : ∀ i d xs c (G : Option D → Nat → Prop), ds[i]? = some d → P i xs c → (∀ c, P (i + 1) xs c → G none c) → (∀ y c, P (i + 1) (xs ++ [y]) c → G (some y) c) → body d c G) (hf : ∀ xs c, P ds.length xs c → k xs c) : wLC body ds [] c k := by
  have go : ∀ (m i : Nat) (xs : List D) (c : Nat), i + m = ds.length → P i xs c → wLC body (ds.drop i) xs c k := by
    intro m
    induction m with
    | zero =>
      intro i xs c hi hp
      have : i = ds.length := by omega
      subst this
      rw [List.drop_length, lc_nil]
      exact hf xs c hp
    | succ m ih =>
      intro i xs c hi hp
      have hl : i < ds.length := by omega
      rw [List.drop_eq_getElem_cons hl, lc_cons]
      refine hs i _ xs c _ (List.getElem?_eq_getElem hl) hp (fun c h => ?_) fun y c h => ?_
      · exact ih (i + 1) xs c (by omega) h
      · exact ih (i + 1) _ c (by omega) h
  have := go ds.length 0 [] c (by omega) h0
  rwa [List.drop_zero] at this
/-- a loop by what holds between its turns -/
theorem for_inv {body : D → VE → Nat → KS → Prop} {ds : List D} (P : Nat → VE → Nat → Prop) (h0 : P 0 ρ c) (hs : ∀ i d ρ c (G : VE → Nat → Prop), ds[i]? = some d → P i ρ c → (∀ ρ c, P (i + 1) ρ c → G ρ c) → body d ρ c (nxt K G)) (hf : ∀ ρ c, P ds.length ρ c → K .nx ρ c) : wFor body K ds ρ c := by
  have go : ∀ (m i : Nat) (ρ : VE) (c : Nat), i + m = ds.length → P i ρ c → wFor body K (ds.drop i) ρ c := by
    intro m
    induction m with
    | zero =>
      intro i ρ c hi hp
      have : i = ds.length := by omega
      subst this
      rw [List.drop_length, for_nil]
      exact hf ρ c hp
    | succ m ih =>
      intro i ρ c hi hp
      have hl : i < ds.length := by omega
      rw [List.drop_eq_getElem_cons hl, for_cons]
      exact hs i _ ρ c _ (List.getElem?_eq_getElem hl) hp fun ρ c h => ih (i + 1) ρ c (by omega) h
  have := go ds.length 0 ρ c (by omega) h0
  rwa [List.drop_zero] at this
/-- the same, over typed things -/
theorem for_tinv {α : Type} {enc : α → D} {body : D → VE → Nat → KS → Prop} {l : List α} (P : Nat → VE → Nat → Prop) (h0 : P 0 ρ c) (hs : ∀ i a ρ c (G : VE → Nat → Prop), l[i]? = some a → P i ρ c → (∀ ρ c, P (i + 1) ρ c → G ρ c) → body (enc a) ρ c (nxt K G)) (hf : ∀ ρ c, P l.length ρ c → K .nx ρ c) : wFor body K (l.map enc) ρ c := by
  refine for_inv P h0 (fun i d ρ c G hd => ?_) fun ρ c h => hf ρ c (by rwa [List.length_map] at h)
  rw [List.getElem?_map] at hd
  cases e : l[i]? with
  | none => rw [e] at hd; cases hd
  | some a => rw [e] at hd; cases hd; exact hs i a ρ c G e
/-- a while by a number that falls -/
theorem whl_inv {cond : VE → Nat → (Bool → Nat → Prop) → PX → Prop} {body : VE → Nat → KS → Prop} (P : Nat → VE → Nat → Prop) (hs : ∀ j ρ c (G : VE → Nat → Prop), P j ρ c → (∀ i ρ c, i < j → P i ρ c → G ρ c) → cond ρ c (fun b c => if b = true then body ρ c (nxt K G) else K .nx ρ c) fun e c => K (.rs e) ρ c) : ∀ (k j : Nat) (ρ : VE) (c : Nat), j < k → P j ρ c → wWhl cond body K k ρ c
  | 0, j, ρ, c, h, _ => by omega
  | k + 1, j, ρ, c, h, hp => by
    rw [whl_s]
    exact hs j ρ c _ hp fun i ρ c hi hp => whl_inv P hs k i ρ c (by omega) hp
theorem vl_dfl (SO : SpsOk T dm S) {f : Str} {d : Def} {ds : List D} (e : T.defs.lookup f = some d) (hl : ds.length ≤ d.ar ∧ d.ar ≤ ds.length + d.df.length) (h : LT (startV d.nn (ds ++ d.df.drop (ds.length + d.df.length - d.ar))) fun ρ => wSs T n dm S d.body ρ c (retV Q X)) : VC T (n + 1) dm f ds c Q X := vc_dfl SO e hl h
theorem vl_def (SO : SpsOk T dm S) {f : Str} {df : Def} {ds : List D} (e : T.defs.lookup f = some df) (hl : ds.length = df.ar) (h : LT (startV df.nn ds) fun ρ => wSs T n dm S df.body ρ c (retV Q X)) : VC T (n + 1) dm f ds c Q X := vc_def SO e hl h
theorem pl_def {f : Str} {df : Def} {ds : List D} {r : D} (e : T.defs.lookup f = some df) (hl : ds.length = df.ar) (h : LT (startV df.nn ds) fun ρ => wSs T n none S0 df.body ρ 0 (retV (fun d' _ => d' = r) fun _ _ => False)) : PR T (n + 1) f ds r := pr_def e hl h
theorem plx_def {f : Str} {df : Def} {ds : List D} {x : Exn} (e : T.defs.lookup f = some df) (hl : ds.length = df.ar) (h : LT (startV df.nn ds) fun ρ => wSs T n none S0 df.body ρ 0 (retV (fun _ _ => False) fun e _ => e = x)) : PRX T (n + 1) f ds x := prx_def e hl h
theorem VC.mono {f : Str} {ds : List D} {Q' : PD} {X' : PX} (h : VC T n dm f ds c Q X) (k : ∀ d c, Q d c → Q' d c) (k' : ∀ e c, X e c → X' e c) : VC T n dm f ds c Q' X' := fun g hD => (h g hD).mono (fun d g' ⟨c', a, b, q⟩ => ⟨c', a, b, k _ _ q⟩) fun e g' ⟨c', a, b, q⟩ => ⟨c', a, b, k' _ _ q⟩
theorem PR.vc {f : Str} {ds : List D} (h : PR T n f ds d) (q : Q d c) : VC T n dm f ds c Q X := fun g hD => (h g).mono (fun d' g' ⟨a, e⟩ => by subst e; exact ⟨c, hD.keep0 a, a.of_nil, q⟩) fun _ _ z => z.elim
theorem PR.ok {f : Str} {ds : List D} (h : PR T n f ds d) {g : G} {Q : D → G → Prop} {E : Exn → G → Prop} (q : ∀ g', Keep [] g g' → Q d g') : Ok ((cfN T n).call f ds g) Q E := (h g).mono (fun d' g' ⟨a, e⟩ => by subst e; exact q g' a) fun _ _ z => z.elim
/-- told by Ok -/
theorem pr_ok {f : Str} {ds : List D} (h : ∀ g Q E, (∀ g', Keep [] g g' → Q d g') → Ok ((cfN T n).call f ds g) Q E) : PR T n f ds d := fun g => h g _ _ fun g' k => ⟨k, rfl⟩
end
/-! draws -/
def d_next : Def := ⟨2, 4, (.cons (.iff (.cmp .gt (.ix (.v 0) (.int 0)) (.int 0)) (.cons (.asg (.v 3) (.bin .mod (.ix (.v 0) (.int 0)) (.v 1))) (.cons (.asg (.ix (.v 0) (.int 0)) (.bin .fdiv (.ix (.v 0) (.int 0)) (.v 1))) (.cons (.ret (.v 3)) .nil))) .nil) (.cons (.asg (.ix (.v 0) (.int 2)) (.bin .add (.ix (.v 0) (.int 2)) (.int 1))) (.cons (.asg (.v 2) (.bin .mod (.bin .pow (.bin .add (.bin .add (.bin .mul (.ix (.v 0) (.int 1)) (.bin .add (.bin .mul (.int 2) (.ix (.v 0) (.int 2))) (.int 1))) (.bin .mul (.bin .mul (.int 7919) (.ix (.v 0) (.int 2))) (.ix (.v 0) (.int 2)))) (.int 11)) (.int 5)) (.int 2147483647))) (.cons (.ret (.bin .mod (.bin .fdiv (.v 2) (.int 11)) (.v 1))) .nil)))), [], none⟩
def d_pick : Def := ⟨2, 2, (.cons (.ret (.ix (.v 1) (.call "_law_next" (.cons (.v 0) (.cons (.bi .len (.cons (.v 1) .nil)) .nil))))) .nil), [], none⟩
structure DrawT (T : Tb) : Prop where
  next : List.lookup ("_law_next" : Str) T.defs = some d_next
  pick : List.lookup ("_law_pick" : Str) T.defs = some d_pick
def specN (m : Nat) : List D → Nat → PD → PX → Prop
  | [.ref a, .int s], c, Q, _ => a = m ∧ c < 1048576 ∧ 0 < s ∧ s < 1152921504606846976 ∧ ∀ v, 0 ≤ v → v < s → Q (.int v) (c + 1)
  | _, _, _, _ => False
def pickO (c : Nat) (Q : PD) : D → Prop
  | .lst xs => xs ≠ [] ∧ xs.length < 1000000 ∧ ∀ d ∈ xs, Q d (c + 1)
  | .tup xs => xs ≠ [] ∧ xs.length < 1000000 ∧ ∀ d ∈ xs, Q d (c + 1)
  | .str x => 0 < x.length ∧ x.length < 4000 ∧ ∀ k ∈ x.cps.toList, Q (.str ⟨#[k]⟩) (c + 1)
  | _ => False
def specP (m : Nat) : List D → Nat → PD → PX → Prop
  | [.ref a, x], c, Q, _ => a = m ∧ c < 1048576 ∧ pickO c Q x
  | _, _, _, _ => False
/-- drawing: these names go -/
def SD (m : Nat) (gs : List Str) : Sps := fun f => if f = "_law_next" then .spec 1 (specN m) else if f = "_law_pick" then .spec 2 (specP m) else if gs.contains f then .goes else .pure
section
variable {T : Tb} {n m c : Nat} {gs : List Str} {dm : Option Nat} {Q : PD} {X : PX}
theorem vc_next (L : DrawT T) {s : Int} (hC : c < 1048576) (hs : 0 < s) (hs2 : s < 2 ^ 60) (hq : ∀ v, 0 ≤ v → v < s → Q (.int v) (c + 1)) : VC T (n + 1) (some m) "_law_next" [.ref m, .int s] c Q X := by
  intro g hD
  have hD : Dr m c g := hD
  obtain ⟨a, b, k, e, h1, h2, h3, h4, h5⟩ := hD
  rw [call_def L.next rfl]
  have hm : ∀ o, (g.set m o)[m]? = some o := fun o => set_self e
  have hb := bound_draw (b := b) (c := k + 1) h2 h3 (by omega) (by omega)
  simp only [Int.mul_assoc] at hb
  have m1 : ∀ x : Int, mulOk 2 x = True := fun x => mulOk_l (by decide)
  have m2 : ∀ x : Int, mulOk 7919 x = True := fun x => mulOk_l (by decide)
  have m3 : ∀ x : Int, mulOk (7919 * x) (k + 1) = True := fun x => mulOk_r (by omega)
  have m4 : ∀ x : Int, mulOk b x = True := fun x => mulOk_l (by omega)
  simp (decide := true) only [d_next, o_v, o_non, o_bl, o_int, o_str, o_gl, o_tup, o_lstT, o_lstF, o_dct, o_bin, o_neg, o_not, o_and, o_or, o_and1, o_or1, o_and2, o_or2, o_cmp, o_cmp2, o_isn, o_notn, o_ite, o_ix, o_sl, o_fld, o_call, o_callv, o_bi, o_mt, o_isi, o_lc, o_nil, o_cons, o_pnil, o_pcons, o_part0, o_part1, o_T, o_ifs0, o_ifs1, o_tg, o_tgT, o_tgI, o_tgF, o_tgn, o_tgc, o_I, o_rng1, o_rng2, o_enum, o_zip, o_items, o_vals, o_ssn, o_ssc, th_nx, th_bk, th_ct, th_rt, th_rs, rt_rt, rt_nx, rt_rs, o_ex, o_ret, o_retn, o_asg, o_par, o_augv, o_iff, o_for, o_whl, o_brk, o_cnt, o_pas, o_frz, OO_some, OO_none, Ok_ok, sv0, svS, rdI, rdB, rdS, rdT, rdL, rdD, rdN, rdO, rdF, p_add, p_sub, p_mul, p_fdiv, p_mod, p_pow, p_addS, p_addT, p_addL, c_lt, c_le, c_gt, c_ge, c_eq, c_ne, c_in, c_nin, e_int, e_str, e_bl, t_bl, t_int, t_tup, t_lst, t_non, i_tup, i_lst, i_dS, i_dI, i_fn, s_tupl, s_lstl, n_tup, n_lst, n_dct, n_str, m_tup, m_lst, b_min, b_max, b_abs, b_all, b_any, b_sum, b_sort, isiAny, isiB, parSet, start0, Es.len, Tgs.len, List.map_cons, List.map_nil, List.length_cons, List.length_nil, List.cons_append, List.nil_append, List.replicate, List.set_cons_zero, List.set_cons_succ, Nat.reduceSub, Nat.reduceAdd, Nat.add_zero, Nat.zero_add, Nat.sub_self, Bool.not_true, Bool.not_false, if_true, if_false, Bool.true_and, Bool.and_true, Bool.false_and, Bool.and_false, Bool.not_not, Bool.false_eq_true, true_and, and_true, eq_self, rdR, rdAt, lenO, seqO, lstO, lsdO, dctO, atO, setO, frzO, b_len, b_tup, b_lstT, b_lstF, b_str, mo_app, mo_pop, mo_get, mo_join, a_app, a_pop, a_get, a_get2, a_join, z_set, f_frz, d_disp, d_dispT, q_last, q_set, k_str, k_int, l_nil, l_str, l_int, w_nil, w_str, w_int, dput, dmerge, dOf, intsOf, boolsOf, Option.map_some, Option.getD_some, Option.getD_none, Option.isSome_some, Option.isSome_none, fits_le, fits_lt, fits_s, body_for, ln_nx, ln_ct, ln_bk, ln_rt, ln_rs, Nat.reduceLeDiff, Nat.reduceLT, Nat.reduceMul, Int.reduceLT, Int.reduceLE, Int.reduceAdd, Int.reduceSub, Int.reduceMul, Int.reduceNeg, Int.reducePow, Int.reduceBEq, Int.reduceBNe, Int.reduceToNat, Nat.reduceEqDiff, Int.reduceEq, decide_true, decide_false, ite_true, ite_false, reduceIte, reduceCtorEq, body_lc, wipeE, e_lstn, e_tupn, e_is, e_si, eo_cc, eo_int, eo_str, eo_bl, eo_nn, eo_nc, eo_cn, bothB_some, at0, at1, at2, DL.i_str, DL.s_str, DL.t_str, DL.in_str, DL.in_tup, DL.in_lst, DL.in_dS, DL.in_dI, DL.orB_some, DL.in_nil, DL.in_cons, DL.in_c1, o_kget, k_str1, Int.reduceDiv, Int.reduceMod, o_rev, rev_t, o_rep, mo_split, mo_upper, mo_ext, mo_clear, a_splitT, a_upper, a_ext, a_clear, rep_T, b_dictT, b_dictF, dicO, DL.pairsOf, DL.dputs, o_deq, DL.ok_a, DL.at_nil, DL.at_s, DL.at_i, o_mk, o_own, o_isc, o_slen, o_rse, o_tri, tr_rs, tr_nx, tr_bk, tr_ct, tr_rt, nr_rs, nr_nx, nr_bk, nr_ct, nr_rt, o_hn, o_hc, mo_cnt, a_cnt, insO, x_endT, x_endF, cl_o, ic_e, ic_o, rdE, DL.dputsA, DL.isAny, e, hm, at0, at1, at2, is0, is1, is2, m1, m2, m3, m4, Int.mul_assoc, hb, divOk_t hs (Int.lt_trans hs2 (by decide)), divP11, hs, pos_mod]
  split
  · rename_i hc
    have hc := of_decide_eq_true hc
    exact ⟨c + 1, ⟨a / s, b, k, hm _, Int.ediv_nonneg h1 (by omega), h2, h3, h4, by omega⟩, Keep.set, hq _ (Int.emod_nonneg _ (by omega)) (Int.emod_lt_of_pos _ hs)⟩
  · exact ⟨c + 1, ⟨a, b, k + 1, hm _, h1, h2, h3, by omega, by omega⟩, Keep.set, hq _ (Int.emod_nonneg _ (by omega)) (Int.emod_lt_of_pos _ hs)⟩
def SN (m : Nat) : Sps := fun f => if f = "_law_next" then .spec 1 (specN m) else .pure
theorem so_N (L : DrawT T) : SpsOk T (some m) (SN m) := by
  intro f r w h k hk ds c Q X hw
  unfold SN at h
  split at h
  · rename_i e
    subst e
    cases h
    obtain ⟨k, rfl⟩ : ∃ j, k = j + 1 := ⟨k - 1, by omega⟩
    unfold specN at hw
    split at hw
    · obtain ⟨rfl, h1, h2, h3, h4⟩ := hw
      exact vc_next L h1 h2 h3 h4
    · exact hw.elim
  · cases h
theorem vs_next {S : Sps} (h : S "_law_next" = .spec 1 (specN m)) {s : Int} : VCall T n dm S "_law_next" [.ref m, .int s] c Q X = (1 ≤ n ∧ c < 1048576 ∧ 0 < s ∧ s < 1152921504606846976 ∧ ∀ v, 0 ≤ v → v < s → Q (.int v) (c + 1)) := by
  unfold VCall
  rw [h]
  simp only [specN, true_and]
theorem vs_pick {S : Sps} (h : S "_law_pick" = .spec 2 (specP m)) {x : D} : VCall T n dm S "_law_pick" [.ref m, x] c Q X = (2 ≤ n ∧ c < 1048576 ∧ pickO c Q x) := by
  unfold VCall
  rw [h]
  simp only [specP, true_and]
theorem pk_l {xs : List D} : pickO c Q (.lst xs) = (xs ≠ [] ∧ xs.length < 1000000 ∧ ∀ d ∈ xs, Q d (c + 1)) := by with_unfolding_all rfl
theorem pk_t {xs : List D} : pickO c Q (.tup xs) = (xs ≠ [] ∧ xs.length < 1000000 ∧ ∀ d ∈ xs, Q d (c + 1)) := by with_unfolding_all rfl
theorem pk_s {x : Str} : pickO c Q (.str x) = (0 < x.length ∧ x.length < 4000 ∧ ∀ k ∈ x.cps.toList, Q (.str ⟨#[k]⟩) (c + 1)) := by with_unfolding_all rfl
end
end DL

set_option Elab.async false
set_option linter.all false
set_option maxRecDepth 100000
set_option maxHeartbeats 4000000
local macro_rules | `(tactic| simp_arith [$xs,*]) => `(tactic| simp (maxSteps := 4000000) (dsimp := false) (decide := true) only [↓DL.w_E_v, ↓DL.w_E_non, ↓DL.w_E_bl, ↓DL.w_E_int, ↓DL.w_E_str, ↓DL.w_E_gl, ↓DL.w_E_tup, ↓DL.w_E_lst, ↓DL.w_E_dct, ↓DL.w_E_bin, ↓DL.w_E_neg, ↓DL.w_E_not, ↓DL.w_E_and, ↓DL.w_E_or, ↓DL.w_E_cmp, ↓DL.w_E_cmp2, ↓DL.w_E_isn, ↓DL.w_E_notn, ↓DL.w_E_ite, ↓DL.w_E_ix, ↓DL.w_E_sl, ↓DL.w_E_fld, ↓DL.w_E_call, ↓DL.w_E_callv, ↓DL.w_E_mk, ↓DL.w_E_own, ↓DL.w_E_isc, ↓DL.w_E_slen, ↓DL.w_E_bi, ↓DL.w_E_mt, ↓DL.w_E_isi, ↓DL.w_E_lc, ↓DL.w_E_kget, ↓DL.w_E_rev, ↓DL.w_E_deq, ↓DL.w_Es_nil, ↓DL.w_Es_cons, ↓DL.w_Ps_nil, ↓DL.w_Ps_cons, ↓DL.w_Part_nil, ↓DL.w_Part_cons, ↓DL.w_And_nil, ↓DL.w_And_cons, ↓DL.w_And_cons2, ↓DL.w_Or_nil, ↓DL.w_Or_cons, ↓DL.w_Or_cons2, ↓DL.w_Ifs_nil, ↓DL.w_Ifs_cons, ↓DL.w_I_e, ↓DL.w_I_rng1, ↓DL.w_I_rng2, ↓DL.w_I_enum, ↓DL.w_I_zip, ↓DL.w_I_items, ↓DL.w_I_vals, ↓DL.w_S_ex, ↓DL.w_S_ret, ↓DL.w_S_retn, ↓DL.w_S_asg, ↓DL.w_S_iff, ↓DL.w_S_forr, ↓DL.w_S_whl, ↓DL.w_S_brk, ↓DL.w_S_cnt, ↓DL.w_S_pas, ↓DL.w_S_rse, ↓DL.w_S_tri, ↓DL.w_Ss_nil, ↓DL.w_Hs_nil, ↓DL.w_Hs_cons, ↓DL.w_T_tup, ↓DL.w_Ts_nil, ↓DL.w_Ts_cons, DL.sl_0, DL.sl_s, DL.sl_n, DL.v_v, DL.v_d, DL.v_dl, DL.v_dd, DL.v_do, DL.v_vl, DL.v_vd, DL.v_vo, DL.v_n, DL.v_dn, DL.ho_l, DL.ho_d, DL.il_l, ↓DL.thv_nx, ↓DL.thv_bk, ↓DL.thv_ct, ↓DL.thv_rt, ↓DL.thv_rs, ↓DL.rtv_rt, ↓DL.rtv_nx, ↓DL.rtv_rs, ↓DL.nrv_nx, ↓DL.nrv_rt, ↓DL.nrv_bk, ↓DL.nrv_ct, ↓DL.w_X_app, ↓DL.w_X_ext, ↓DL.w_X_call, ↓DL.w_X_own, ↓DL.w_X_mk, ↓DL.w_A_v, ↓DL.w_A_ix, ↓DL.w_A_fld, ↓DL.w_A_tup, ↓DL.app_l, ↓DL.ext_l, ↓DL.set_l, ↓DL.set_d, ↓DL.setf_o, ↓DL.fldv_o, ↓DL.intv_i, ↓DL.seqv_l, ↓DL.seqv_t, ↓DL.itv_l, ↓DL.itv_t, ↓DL.itv_s, ↓DL.itv_d, ↓DL.itms_d, ↓DL.zipv_l, ↓DL.zipv_t, ↓DL.nxt_nx, ↓DL.nxt_ct, ↓DL.nxt_bk, ↓DL.nxt_rt, ↓DL.nxt_rs, DL.cls_v, DL.isc_e, DL.isc_o, DL.non_n, DL.non_i, DL.non_b, DL.non_s, DL.non_tu, DL.non_l, DL.non_d, DL.non_e, DL.non_o, DL.mkev_l, DL.mkev_d, DL.frz_l, DL.frz_d, ↓DL.bv_len, ↓DL.bv_tup, ↓DL.bv_lst, ↓DL.bv_min, ↓DL.bv_max, ↓DL.bv_abs, ↓DL.bv_all, ↓DL.bv_any, ↓DL.bv_sum, ↓DL.bv_sort, ↓DL.bv_str, ↓DL.bv_dct, ↓DL.mt_get, ↓DL.mt_get2, ↓DL.mt_join, ↓DL.mt_split, ↓DL.mt_upper, ↓DL.mt_count, ↓DL.len_t, ↓DL.len_l, ↓DL.len_d, ↓DL.len_s, DL.bfz_list, DL.bfz_dict, DL.bfz_sort, ↓DL.slen_t, ↓DL.revv_t, ↓DL.tab_f, ↓DL.get1_s, ↓DL.pk_l, ↓DL.pk_t, ↓DL.pk_s, DL.OO_some, DL.OO_none, DL.p_add, DL.p_sub, DL.c_lt, DL.c_le, DL.c_gt, DL.c_ge, DL.c_eq, DL.c_in, DL.e_int, DL.e_str, DL.e_bl, DL.t_bl, DL.t_int, DL.t_tup, DL.t_lst, DL.t_non, DL.i_tup, DL.i_lst, DL.i_fn, DL.s_tupl, DL.s_lstl, DL.m_tup, DL.m_lst, DL.isiAny, DL.isiB, DL.Es.len, DL.Tgs.len, List.map_cons, List.map_nil, List.length_cons, List.length_nil, List.cons_append, List.nil_append, List.replicate, List.set_cons_zero, List.set_cons_succ, Nat.reduceSub, Nat.reduceAdd, Nat.add_zero, Nat.zero_add, Nat.sub_self, Bool.not_true, Bool.not_false, if_true, if_false, Bool.true_and, Bool.and_true, Bool.false_and, Bool.and_false, Bool.not_not, Bool.false_eq_true, true_and, and_true, eq_self, ↓DL.seqO, ↓DL.lstO, ↓DL.lsdO, ↓DL.dctO, DL.k_str, DL.k_int, DL.l_nil, DL.l_str, DL.l_int, DL.w_nil, DL.w_str, DL.w_int, DL.dput, DL.dmerge, DL.dOf, DL.intsOf, DL.boolsOf, Option.map_some, Option.getD_some, Option.getD_none, Option.isSome_some, Option.isSome_none, DL.fits_le, DL.fits_lt, DL.fits_s, Nat.reduceLeDiff, Nat.reduceLT, Nat.reduceMul, Int.reduceLT, Int.reduceLE, Int.reduceAdd, Int.reduceSub, Int.reduceMul, Int.reduceNeg, Int.reducePow, Int.reduceBEq, Int.reduceBNe, Int.reduceToNat, Nat.reduceEqDiff, Int.reduceEq, decide_true, decide_false, ite_true, ite_false, reduceIte, reduceCtorEq, DL.e_lstn, DL.e_tupn, DL.e_is, DL.e_si, DL.eo_cc, DL.eo_int, DL.eo_str, DL.eo_bl, DL.eo_nn, DL.eo_nc, DL.eo_cn, DL.bothB_some, DL.at0, DL.at1, DL.at2, DL.in_str, DL.in_tup, DL.in_lst, DL.orB_some, DL.in_nil, DL.in_cons, DL.in_c1, Int.reduceDiv, Int.reduceMod, ↓DL.dicO, DL.pairsOf, DL.dputs, DL.ok_a, DL.at_nil, DL.at_s, DL.at_i, DL.dputsA, DL.isAny, DL.evOf, DL.wipeV, DL.startV, DL.startM, DL.parV, ↓DL.vcall0, ↓DL.raiV, List.drop_zero, List.map_map, decide_eq_true_eq, Bool.or_true, Bool.true_or, Bool.or_false, Bool.false_or, DL.ood_some, DL.ood_none, DL.ood_map, ↓DL.lcd_nil, ↓DL.ford_nil, DL.q_mul, DL.q_fdiv, DL.q_mod, DL.q_pow, DL.q_addS, DL.q_addT, DL.q_addL, DL.q_ne, DL.q_nin, DL.q_dS, DL.q_dI, DL.q_ixs, DL.q_sls, DL.q_tru, DL.q_inS, DL.q_inI, ↓DL.par_nil, ↓DL.par_cons, ↓DL.w_T_vl, ↓DL.w_S_parl, ↓DL.w_S_augvl, ↓DL.w_S_frzl, DL.lt_c, DL.lt_n, DL.lt_v, DL.lt_l, DL.lt_d, DL.lt_o, DL.kd_s, DL.kd_i, DL.kd_t, DL.kds_n, DL.kds_c, ↓DL.w_Ss_one, ↓DL.w_Ss_two, DL.mo_get, DL.mo_join, DL.mo_split, DL.mo_upper, DL.mo_cnt, $xs,*])
/-! the value layer: draws -/
namespace DL
open PySem PySem.Spec L2

section
variable {T : Tb} {n m c : Nat} {gs : List Str} {dm : Option Nat} {Q : PD} {X : PX}
theorem vc_pick (L : DrawT T) {x : D} (hC : c < 1048576) (h : pickO c Q x) : VC T (n + 2) (some m) "_law_pick" [.ref m, x] c Q X := by
  refine vl_def (so_N L) L.pick rfl ?_
  have e : SN m "_law_next" = .spec 1 (specN m) := rfl
  cases x <;> first | exact h.elim | skip
  case lst xs =>
    obtain ⟨h1, h2, h3⟩ := h
    have hp : 0 < xs.length := List.length_pos_iff.mpr h1
    simp_arith [d_pick, vs_next e]
    refine ⟨hC, by omega, by omega, fun v a b => ?_⟩
    obtain ⟨d, e, hd⟩ := at_some a b
    simp_arith [e]
    exact h3 d hd
  case tup xs =>
    obtain ⟨h1, h2, h3⟩ := h
    have hp : 0 < xs.length := List.length_pos_iff.mpr h1
    simp_arith [d_pick, vs_next e]
    refine ⟨hC, by omega, by omega, fun v a b => ?_⟩
    obtain ⟨d, e, hd⟩ := at_some a b
    simp_arith [e]
    exact h3 d hd
  case str x =>
    obtain ⟨h1, h2, h3⟩ := h
    have hF : Fits x.length := fits (by omega)
    simp_arith [d_pick, vs_next e, hF]
    refine ⟨hC, by omega, by omega, fun v h0 h1 => ?_⟩
    obtain ⟨k, rfl⟩ := Int.eq_ofNat_of_zero_le h0
    have hk : k < x.cps.toList.length := by
      have : x.length = x.cps.toList.length := by simp [Str.length]
      omega
    have e : atI x.cps.toList (k : Int) = some x.cps.toList[k] := atI_nat (List.getElem?_eq_getElem hk)
    simp_arith [e, hF]
    exact h3 _ (List.getElem_mem hk)
theorem so_D (L : DrawT T) : SpsOk T (some m) (SD m gs) := by
  intro f r w h k hk ds c Q X hw
  unfold SD at h
  split at h
  · exact so_N L f r w (by unfold SN; rw [if_pos (by assumption)]; exact h) k hk ds c Q X hw
  split at h
  · rename_i e
    subst e
    cases h
    obtain ⟨k, rfl⟩ : ∃ j, k = j + 2 := ⟨k - 2, by omega⟩
    unfold specP at hw
    split at hw
    · obtain ⟨rfl, h1, h2⟩ := hw
      exact vc_pick L h1 h2
    · exact hw.elim
  · split at h <;> cases h
theorem sd_next : SD m gs "_law_next" = .spec 1 (specN m) := rfl
theorem sd_pick : SD m gs "_law_pick" = .spec 2 (specP m) := rfl
theorem vd_next {s : Int} : VCall T n dm (SD m gs) "_law_next" [.ref m, .int s] c Q X = (1 ≤ n ∧ c < 1048576 ∧ 0 < s ∧ s < 1152921504606846976 ∧ ∀ v, 0 ≤ v → v < s → Q (.int v) (c + 1)) := vs_next sd_next
theorem vd_pick {x : D} : VCall T n dm (SD m gs) "_law_pick" [.ref m, x] c Q X = (2 ≤ n ∧ c < 1048576 ∧ pickO c Q x) := vs_pick sd_pick
end
end DL

set_option Elab.async false
set_option linter.all false
set_option maxRecDepth 100000
set_option maxHeartbeats 4000000
/-! the value layer: draws begun, laws -/
namespace DL
open PySem PySem.Spec L2

def d_begun : Def := ⟨2, 3, (.cons (.asg (.v 2) (.bin .add (.int 1) (.bin .mod (.bin .pow (.bin .add (.bin .add (.bin .mul (.bin .mod (.v 0) (.int 2147483647)) (.int 48271)) (.bin .mul (.int 104729) (.v 1))) (.int 7)) (.int 3)) (.int 2147483629)))) (.cons (.iff (.cmp .ge (.v 0) (.bin .pow (.int 10) (.int 18))) (.cons (.ret (.lst false (.cons (.bin .sub (.v 0) (.bin .pow (.int 10) (.int 18))) (.cons (.v 2) (.cons (.int 0) .nil))))) .nil) .nil) (.cons (.ret (.lst false (.cons (.int 0) (.cons (.v 2) (.cons (.int 0) .nil))))) .nil))), [], none⟩
section
variable {T : Tb} {n : Nat} {gs : List Str}
theorem ok_begun (h : List.lookup ("_law_begun" : Str) T.defs = some d_begun) {c k : Int} {g : G} {Q : D → G → Prop} {E : Exn → G → Prop} (h0 : 0 ≤ k) (h2 : k ≤ 1000) (hq : ∀ g', Dr g.length 0 g' → g'.length = g.length + 1 → Keep [] g g' → Q (.ref g.length) g') : Ok ((cfN T (n + 1)).call "_law_begun" [.int c, .int k] g) Q E := by
  rw [call_def h rfl]
  simp (decide := true) only [d_begun, o_v, o_non, o_bl, o_int, o_str, o_gl, o_tup, o_lstT, o_lstF, o_dct, o_bin, o_neg, o_not, o_and, o_or, o_and1, o_or1, o_and2, o_or2, o_cmp, o_cmp2, o_isn, o_notn, o_ite, o_ix, o_sl, o_fld, o_call, o_callv, o_bi, o_mt, o_isi, o_lc, o_nil, o_cons, o_pnil, o_pcons, o_part0, o_part1, o_T, o_ifs0, o_ifs1, o_tg, o_tgT, o_tgI, o_tgF, o_tgn, o_tgc, o_I, o_rng1, o_rng2, o_enum, o_zip, o_items, o_vals, o_ssn, o_ssc, th_nx, th_bk, th_ct, th_rt, th_rs, rt_rt, rt_nx, rt_rs, o_ex, o_ret, o_retn, o_asg, o_par, o_augv, o_iff, o_for, o_whl, o_brk, o_cnt, o_pas, o_frz, OO_some, OO_none, Ok_ok, sv0, svS, rdI, rdB, rdS, rdT, rdL, rdD, rdN, rdO, rdF, p_add, p_sub, p_mul, p_fdiv, p_mod, p_pow, p_addS, p_addT, p_addL, c_lt, c_le, c_gt, c_ge, c_eq, c_ne, c_in, c_nin, e_int, e_str, e_bl, t_bl, t_int, t_tup, t_lst, t_non, i_tup, i_lst, i_dS, i_dI, i_fn, s_tupl, s_lstl, n_tup, n_lst, n_dct, n_str, m_tup, m_lst, b_min, b_max, b_abs, b_all, b_any, b_sum, b_sort, isiAny, isiB, parSet, start0, Es.len, Tgs.len, List.map_cons, List.map_nil, List.length_cons, List.length_nil, List.cons_append, List.nil_append, List.replicate, List.set_cons_zero, List.set_cons_succ, Nat.reduceSub, Nat.reduceAdd, Nat.add_zero, Nat.zero_add, Nat.sub_self, Bool.not_true, Bool.not_false, if_true, if_false, Bool.true_and, Bool.and_true, Bool.false_and, Bool.and_false, Bool.not_not, Bool.false_eq_true, true_and, and_true, eq_self, rdR, rdAt, lenO, seqO, lstO, lsdO, dctO, atO, setO, frzO, b_len, b_tup, b_lstT, b_lstF, b_str, mo_app, mo_pop, mo_get, mo_join, a_app, a_pop, a_get, a_get2, a_join, z_set, f_frz, d_disp, d_dispT, q_last, q_set, k_str, k_int, l_nil, l_str, l_int, w_nil, w_str, w_int, dput, dmerge, dOf, intsOf, boolsOf, Option.map_some, Option.getD_some, Option.getD_none, Option.isSome_some, Option.isSome_none, fits_le, fits_lt, fits_s, body_for, ln_nx, ln_ct, ln_bk, ln_rt, ln_rs, Nat.reduceLeDiff, Nat.reduceLT, Nat.reduceMul, Int.reduceLT, Int.reduceLE, Int.reduceAdd, Int.reduceSub, Int.reduceMul, Int.reduceNeg, Int.reducePow, Int.reduceBEq, Int.reduceBNe, Int.reduceToNat, Nat.reduceEqDiff, Int.reduceEq, decide_true, decide_false, ite_true, ite_false, reduceIte, reduceCtorEq, body_lc, wipeE, e_lstn, e_tupn, e_is, e_si, eo_cc, eo_int, eo_str, eo_bl, eo_nn, eo_nc, eo_cn, bothB_some, at0, at1, at2, DL.i_str, DL.s_str, DL.t_str, DL.in_str, DL.in_tup, DL.in_lst, DL.in_dS, DL.in_dI, DL.orB_some, DL.in_nil, DL.in_cons, DL.in_c1, o_kget, k_str1, Int.reduceDiv, Int.reduceMod, o_rev, rev_t, o_rep, mo_split, mo_upper, mo_ext, mo_clear, a_splitT, a_upper, a_ext, a_clear, rep_T, b_dictT, b_dictF, dicO, DL.pairsOf, DL.dputs, o_deq, DL.ok_a, DL.at_nil, DL.at_s, DL.at_i, o_mk, o_own, o_isc, o_slen, o_rse, o_tri, tr_rs, tr_nx, tr_bk, tr_ct, tr_rt, nr_rs, nr_nx, nr_bk, nr_ct, nr_rt, o_hn, o_hc, mo_cnt, a_cnt, insO, x_endT, x_endF, cl_o, ic_e, ic_o, rdE, DL.dputsA, DL.isAny, mulOk_r, mulOk_l, bound_seed h0 h2]
  have key : ∀ x y : Int, 0 ≤ x → 0 ≤ y → y < 2147483629 → Q (.ref g.length) (g ++ [.lst [.int x, .int (1 + y), .int 0]]) := by
    intro x y hx hy hy2
    refine hq _ ⟨x, 1 + y, 0, by simp, hx, by omega, by omega, by omega, by omega⟩ (by simp) .app
  split
  · rename_i hc
    exact key _ _ (by have := of_decide_eq_true hc; omega) (by omega) (by omega)
  · exact key _ _ (by omega) (by omega) (by omega)
/-- a def that begins a draw and comes to one value -/
theorem pr_begun (L : DrawT T) (hb : List.lookup ("_law_begun" : Str) T.defs = some d_begun) {f : Str} {d : Def} {i : Nat} {rest : Ss} {S : Nat → Sps} (SO : ∀ m, SpsOk T (some m) (S m)) {cell k : Int} {r : D} (e : T.defs.lookup f = some d) (har : 2 = d.ar) (hbd : d.body = .cons (.asg (.v i) (.call "_law_begun" (.cons (.v 0) (.cons (.v 1) .nil)))) rest) (h0 : 0 ≤ k) (h2 : k ≤ 1000)
    (h : ∀ m, LT ((startV d.nn [.int cell, .int k]).set i (.val (.ref m))) fun ρ => wSs T (n + 1) (some m) (S m) rest ρ 0 (retV (fun d' _ => d' = r) fun _ _ => False)) : PR T (n + 2) f [.int cell, .int k] r := by
  intro g
  rw [call_def (ds := [.int cell, .int k]) e har, hbd, o_ssc, o_asg, o_call]
  have s0 : slot (start0 d.nn [.int cell, .int k]) 0 = some (.int cell) := rfl
  have s1 : slot (start0 d.nn [.int cell, .int k]) 1 = some (.int k) := rfl
  rw [o_cons, o_v, s0, OO_some, o_cons, o_v, s1, OO_some, o_nil]
  refine ok_begun hb h0 h2 fun g' hD hl hK => ?_
  rw [o_tg, th_nx]
  have R : Re (some g.length) g' g' (startV d.nn [.int cell, .int k]) (start0 d.nn [.int cell, .int k]) := start_re _ _ fun m hm => by
    have : m = g.length := by simpa [dL] using hm
    omega
  refine (vSs (SO g.length) rest _ 0 _ (h g.length) g' g' _ hD (R.setV i _)).seq fun x g1 ⟨ρ1, c1, D1, R1, h1⟩ => ?_
  have KK : Keep [] g g1 := ⟨by have := hK.1; have := R1.kp.1; omega, fun n hn _ => by
    rw [R1.kp.2 n (by omega) (by simp [dL]; omega)]
    exact hK.2 n hn (by simp)⟩
  obtain ⟨f, ρh1⟩ := x
  cases f with
  | nx => rw [rt_nx]; exact ⟨KK, h1⟩
  | rt d => rw [rt_rt]; exact ⟨KK, h1⟩
  | rs e => exact h1.elim
  | bk => exact h1.elim
  | ct => exact h1.elim
theorem law_of {ns : List Int} {n : Nat} (h : PR T n "law" [.lst (ns.map D.int)] (.bl true)) : ∃ g', (cfN T n).call "law" [.lst (ns.map D.int)] [] = .ok (.bl true) g' := by
  obtain ⟨a, g, e, q⟩ := (h []).get
  rw [q.2] at e
  exact ⟨g, e⟩
end
end DL

set_option Elab.async false
set_option linter.all false
set_option maxRecDepth 100000
set_option maxHeartbeats 4000000
/-! draws of systems -/
namespace S1
open PySem PySem.Spec PyProof.Rows L2 DL
def d_unknowns : Def := ⟨2, 7, (.cons (.asg (.v 2) (.str "abcdefghijklmnopqrstuvwxyz0123456789")) (.cons (.asg (.v 3) (.call "_law_next" (.cons (.v 0) (.cons (.int 36) .nil)))) (.cons (.asg (.v 4) (.lst true (.cons (.str "") (.cons (.str "1") (.cons (.str "2") (.cons (.str "x") (.cons (.str "qq0") (.cons (.str "1234567") .nil)))))))) (.cons (.asg (.v 5) (.call "_law_next" (.cons (.v 0) (.cons (.int 6) .nil)))) (.cons (.ret (.lc true [6] (.bin .add (.ix (.v 2) (.bin .mod (.bin .add (.v 3) (.bin .mul (.int 5) (.v 6))) (.int 36))) (.ix (.v 4) (.bin .mod (.bin .add (.v 5) (.bin .mul (.v 6) (.v 6))) (.int 6)))) (.v 6) (.rng1 (.v 1)) .nil)) .nil))))), [], none⟩
def d_number : Def := ⟨1, 2, (.cons (.asg (.v 1) (.call "_law_next" (.cons (.v 0) (.cons (.int 9) .nil)))) (.cons (.iff (.cmp .eq (.v 1) (.int 8)) (.cons (.ret (.bin .sub (.call "_law_next" (.cons (.v 0) (.cons (.bin .mul (.int 2) (.bin .pow (.int 10) (.int 9))) .nil))) (.bin .pow (.int 10) (.int 9)))) .nil) .nil) (.cons (.ret (.bin .sub (.call "_law_next" (.cons (.v 0) (.cons (.int 9) .nil))) (.ix (.lst true (.cons (.int 4) (.cons (.int 4) (.cons (.int 2) (.cons (.int 0) (.cons (.int 4) (.cons (.int 6) (.cons (.int 3) (.cons (.int 4) .nil))))))))) (.v 1)))) .nil))), [], none⟩
def d_system : Def := ⟨3, 12, (.cons (.asg (.v 3) (.call "_law_next" (.cons (.v 0) (.cons (.int 3) .nil)))) (.cons (.asg (.v 4) (.bin .add (.lst true (.cons (.str "") .nil)) (.v 1))) (.cons (.asg (.v 5) (.lc true [11] (.call "_law_number" (.cons (.v 0) .nil)) (.v 11) (.e (.v 4)) .nil)) (.cons (.asg (.v 6) (.lst false .nil)) (.cons (.forr (.v 7) (.rng1 (.v 2)) (.cons (.asg (.v 8) (.call "_law_next" (.cons (.v 0) (.cons (.bi .len (.cons (.v 4) .nil)) .nil)))) (.cons (.asg (.v 9) (.bin .mod (.bin .add (.bin .add (.v 8) (.int 1)) (.call "_law_next" (.cons (.v 0) (.cons (.bin .sub (.bi .len (.cons (.v 4) .nil)) (.int 1)) .nil)))) (.bi .len (.cons (.v 4) .nil)))) (.cons (.asg (.v 10) (.call "_law_number" (.cons (.v 0) .nil))) (.cons (.iff (.cmp .gt (.v 3) (.int 0)) (.cons (.asg (.v 10) (.bin .sub (.bin .add (.bin .sub (.ix (.v 5) (.v 8)) (.ix (.v 5) (.v 9))) (.call "_law_next" (.cons (.v 0) (.cons (.int 4) .nil)))) (.bin .mul (.bin .sub (.v 3) (.int 1)) (.bin .sub (.int 1) (.bi .min2 (.cons (.int 1) (.cons (.call "_law_next" (.cons (.v 0) (.cons (.int 6) .nil))) .nil))))))) .nil) .nil) (.cons (.ex (.mt .append (.v 6) (.cons (.tup (.cons (.ix (.v 4) (.v 8)) (.cons (.ix (.v 4) (.v 9)) (.cons (.v 10) .nil)))) .nil))) .nil)))))) (.cons (.ret (.bi .tuple (.cons (.v 6) .nil))) .nil)))))), [], none⟩
structure S1T (T : Tb) : Prop extends DrawT T where
  unk : List.lookup ("_law_unknowns" : Str) T.defs = some d_unknowns
  num : List.lookup ("_law_number" : Str) T.defs = some d_number
  sys : List.lookup ("_law_system" : Str) T.defs = some d_system
def signs : Str := "abcdefghijklmnopqrstuvwxyz0123456789"
def sgB (c : Nat) : Bool := decide (c ∈ signs.cps.toList)
/-- an unknown -/
def unkS (x : Str) : Bool := decide (1 ≤ x.length) && (decide (x.length ≤ 8) && x.cps.toList.all sgB)
def tails : List Str := ["", "1", "2", "x", "qq0", "1234567"]
def unkN (a t k : Nat) : List Str := (List.range k).map fun k => ⟨#[signs.cps.toList.getD ((a + 5 * k) % 36) 0]⟩ ++ tails.getD ((t + k * k) % 6) ""
def goodU (ns : List Str) : Bool := ns.all unkS && decide ns.Nodup
theorem good_unk : ∀ a : _root_.Fin 36, ∀ t : _root_.Fin 6, goodU (unkN a.val t.val 7) = true := by decide +kernel
theorem sg_at : ∀ i : _root_.Fin 36, atI ("abcdefghijklmnopqrstuvwxyz0123456789" : Str).cps.toList (i.val : Int) = some (signs.cps.toList.getD i.val 0) := by decide +kernel
theorem tl_at : ∀ i : _root_.Fin 6, atI [D.str "", .str "1", .str "2", .str "x", .str "qq0", .str "1234567"] (i.val : Int) = some (.str (tails.getD i.val "")) := by
  intro i
  match i with
  | ⟨0, _⟩ => rfl
  | ⟨1, _⟩ => rfl
  | ⟨2, _⟩ => rfl
  | ⟨3, _⟩ => rfl
  | ⟨4, _⟩ => rfl
  | ⟨5, _⟩ => rfl
  | ⟨n + 6, h⟩ => exact absurd h (by omega)
theorem tl_len : ∀ i : _root_.Fin 6, (tails.getD i.val "").length ≤ 7 := by decide +kernel
theorem unk_take {a t k : Nat} (h : k ≤ 7) : unkN a t k = (unkN a t 7).take k := by
  unfold unkN
  rw [← List.map_take, List.take_range, Nat.min_eq_left h]
abbrev gs1 : List Str := ["_law_unknowns", "_law_number", "_law_system"]
section
variable {T : Tb} {n m c : Nat} {Q : PD} {X : PX}
theorem vb_number {ds : List D} : VCall T n (some m) (SD m gs1) "_law_number" ds c Q X = VCd T n (some m) "_law_number" ds c Q X := by with_unfolding_all rfl
theorem vc_unknowns (L : S1T T) {k : Nat} (hk : k ≤ 7) (hc : c < 1000000) (hq : ∀ ns : List Str, ns.length = k → (∀ x ∈ ns, unkS x = true) → ns.Nodup → Q (.lst (ns.map .str)) (c + 2)) : VC T (n + 2) (some m) "_law_unknowns" [.ref m, .int (k : Nat)] c Q X := by
  refine vl_def (so_D (gs := gs1) L.toDrawT) L.unk rfl ?_
  simp_arith [d_unknowns, vd_next]
  refine ⟨by omega, fun a a0 a1 => ⟨by omega, fun t t0 t1 => ⟨by omega, ?_⟩⟩⟩
  obtain ⟨a, rfl⟩ := Int.eq_ofNat_of_zero_le a0
  obtain ⟨t, rfl⟩ := Int.eq_ofNat_of_zero_le t0
  have er : rngD 0 (k : Nat) = (List.range k).map fun i => .int (i : Nat) := rng0 (n := k)
  rw [er]
  refine ⟨fits (by simp; omega), ?_⟩
  have hd : ∀ j ∈ List.range k, j < 7 := fun j hj => by have := List.mem_range.mp hj; omega
  rw [lcd_tmap (fun k : Nat => .str (⟨#[signs.cps.toList.getD ((a + 5 * k) % 36) 0]⟩ ++ tails.getD ((t + k * k) % 6) "")) (fun j hj c K => by
    have hj := hd j hj
    have q1 : ((a : Int) + 5 * (j : Int)) % 36 = (((a + 5 * j) % 36 : Nat) : Int) := by omega
    have q2 : ((t : Int) + (j : Int) * (j : Int)) % 6 = (((t + j * j) % 6 : Nat) : Int) := by rw [← Int.natCast_mul]; omega
    have m1 : mulOk 5 (j : Int) = True := mulOk_l (by decide)
    have m2 : mulOk (j : Int) (j : Int) = True := mulOk_l (by omega)
    have f1 := sg_at ⟨(a + 5 * j) % 36, by omega⟩
    have f2 := tl_at ⟨(t + j * j) % 6, by omega⟩
    have f3 := tl_len ⟨(t + j * j) % 6, by omega⟩
    dsimp only at f1 f2 f3
    have o1 : ∀ c : Nat, (⟨#[c]⟩ : Str).length = 1 := fun _ => rfl
    have hF : Fits (1 + (tails.getD ((t + j * j) % 6) "").length) := fits (by omega)
    simp_arith [q1, q2, m1, m2, f1, f2, o1, hF]), List.nil_append]
  simp_arith []
  have hg := good_unk ⟨a, by omega⟩ ⟨t, by omega⟩
  simp only [goodU, Bool.and_eq_true, List.all_eq_true, decide_eq_true_eq] at hg
  have e := unk_take (a := a) (t := t) hk
  have := hq (unkN a t k) (by simp [unkN]) (fun x hx => by rw [e] at hx; exact hg.1 x (List.mem_of_mem_take hx)) (by rw [e]; exact List.Sublist.nodup (List.take_sublist _ _) hg.2)
  simpa [unkN, List.map_map, Function.comp_def] using this
theorem vc_number (L : S1T T) (hc : c < 1000000) (hq : ∀ v : Int, -2000000000 ≤ v → v ≤ 2000000000 → Q (.int v) (c + 2)) : VC T (n + 2) (some m) "_law_number" [.ref m] c Q X := by
  refine vl_def (so_D (gs := gs1) L.toDrawT) L.num rfl ?_
  simp_arith [d_number, vd_next, mulOk_l]
  refine ⟨by omega, fun v v0 v1 => ?_⟩
  split
  · exact ⟨by omega, fun u u0 u1 => hq _ (by omega) (by omega)⟩
  · rename_i h8
    have h8 : v ≠ 8 := by simpa using h8
    refine ⟨by omega, fun u u0 u1 => ?_⟩
    obtain ⟨d, e, hd⟩ := at_some (xs := [D.int 4, D.int 4, D.int 2, D.int 0, D.int 4, D.int 6, D.int 3, D.int 4]) v0 (by simp; omega)
    have : ∃ k : Int, d = .int k ∧ 0 ≤ k ∧ k ≤ 6 := by
      simp only [List.mem_cons, List.not_mem_nil, or_false] at hd
      rcases hd with rfl | rfl | rfl | rfl | rfl | rfl | rfl | rfl <;> exact ⟨_, rfl, by omega, by omega⟩
    obtain ⟨k, rfl, k0, k1⟩ := this
    simp_arith [e]
    exact hq _ (by omega) (by omega)
/-- a difference -/
abbrev Df := Str × Str × Int
def dfD (t : Df) : D := .tup [.str t.1, .str t.2.1, .int t.2.2]
def sysD (l : List Df) : D := .tup (l.map dfD)
theorem at_str {ns : List Str} {v : Int} (h0 : 0 ≤ v) (h1 : v < ns.length) : ∃ x, ns[v.toNat]? = some x ∧ atI (ns.map D.str) v = some (.str x) := by
  obtain ⟨i, rfl⟩ := Int.eq_ofNat_of_zero_le h0
  have hi : i < ns.length := by omega
  refine ⟨ns[i], by simp [List.getElem?_eq_getElem hi], ?_⟩
  exact atI_nat (by rw [List.getElem?_map, List.getElem?_eq_getElem hi]; rfl)
theorem mod_ne {x u L : Int} (h0 : 0 ≤ x) (h1 : x < L) (h2 : 0 ≤ u) (h3 : u < L - 1) : 0 ≤ (x + 1 + u) % L ∧ (x + 1 + u) % L < L ∧ (x + 1 + u) % L ≠ x := by
  refine ⟨Int.emod_nonneg _ (by omega), Int.emod_lt_of_pos _ (by omega), ?_⟩
  by_cases h : x + 1 + u < L
  · rw [Int.emod_eq_of_lt (by omega) h]; omega
  · have : (x + 1 + u) % L = x + 1 + u - L := by
      rw [← Int.sub_emod_right, Int.emod_eq_of_lt (by omega) (by omega)]
    omega
theorem vc_system (L : S1T T) {ns : List Str} {k : Nat} (hn : 1 ≤ ns.length) (hn2 : ns.length ≤ 200) (hk : k ≤ 1000) (hc : c < 900000) (hq : ∀ (l : List Df) c', l.length = k → (∀ t ∈ l, t.1 ∈ ("" : Str) :: ns ∧ t.2.1 ∈ ("" : Str) :: ns ∧ ((("" : Str) :: ns).Nodup → t.1 ≠ t.2.1) ∧ -20000000000 ≤ t.2.2 ∧ t.2.2 ≤ 20000000000) → c' ≤ c + 8 * k + 2 * ns.length + 10 → Q (sysD l) c') : VC T (n + 3) (some m) "_law_system" [.ref m, .lst (ns.map .str), .int (k : Nat)] c Q X := by
  refine vl_def (so_D (gs := gs1) L.toDrawT) L.sys rfl ?_
  have fF : ∀ j, j ≤ 1500 → Fits j := fun j h => fits (by omega)
  have hl : (ns.map D.str).length = ns.length := List.length_map _
  simp_arith [d_system, vd_next, hl, fF (1 + ns.length) (by omega), fF (ns.length + 1) (by omega)]
  refine ⟨by omega, fun w w0 w1 => ?_⟩
  refine lc_inv (c := c + 1) (fun i xs c' => xs.length = i ∧ c' ≤ c + 1 + 2 * i ∧ ∀ d ∈ xs, ∃ v : Int, d = .int v ∧ -2000000000 ≤ v ∧ v ≤ 2000000000) ⟨rfl, by omega, by simp⟩ ?_ ?_
  · rintro i d xs c' G hd ⟨h1, h2, h3⟩ hno hG
    have hi : i < ns.length + 1 := by
      have := (List.getElem?_eq_some_iff.mp hd).1
      simpa using this
    simp_arith [vb_number]
    refine vc_number L (by omega) fun v v0 v1 => ?_
    exact hG _ _ ⟨by simp [h1], by omega, fun d hd => by
      rcases List.mem_append.mp hd with h | h
      · exact h3 d h
      · rw [List.mem_singleton.mp h]; exact ⟨v, rfl, v0, v1⟩⟩
  · rintro ws c' ⟨h1, h2, h3⟩
    simp only [List.length_cons, hl] at h1 h2
    simp_arith []
    refine ⟨by omega, ?_⟩
    have er : rngD 0 (k : Nat) = (List.range k).map fun i => .int (i : Nat) := rng0 (n := k)
    rw [er]
    refine for_tinv (fun i ρ c'' => c'' ≤ c' + 8 * i ∧ ∃ (l : List Df) (e1 e2 e3 e4 e5 : EV), l.length = i ∧ (∀ t ∈ l, t.1 ∈ ("" : Str) :: ns ∧ t.2.1 ∈ ("" : Str) :: ns ∧ ((("" : Str) :: ns).Nodup → t.1 ≠ t.2.1) ∧ -20000000000 ≤ t.2.2 ∧ t.2.2 ≤ 20000000000) ∧ ρ = [.val (.ref m), .val (.lst (ns.map .str)), .val (.int k), .val (.int w), .val (.lst (.str ("" : Str) :: ns.map .str)), .val (.lst ws), .lst (l.map dfD), e1, e2, e3, e4, e5]) ⟨by omega, [], _, _, _, _, _, rfl, by simp, rfl⟩ ?_ ?_
    · rintro i a ρ c'' G ha ⟨hc'', l, e1, e2, e3, e4, e5, hll, hlt, rfl⟩ hG
      have hi : i < k := by
        have := (List.getElem?_eq_some_iff.mp ha).1
        simpa using this
      simp_arith [vd_next, hl, vb_number]
      refine ⟨by omega, by omega, by omega, fun x x0 x1 => ⟨by omega, by omega, by omega, fun u u0 u1 => ?_⟩⟩
      have hpos : (0 : Int) < ((ns.length + 1 : Nat) : Int) := by omega
      obtain ⟨y0, y1, yn⟩ := mod_ne (x := x) (u := u) (L := ((ns.length + 1 : Nat) : Int)) x0 (by omega) u0 (by omega)
      generalize hy : (x + 1 + u) % ((ns.length + 1 : Nat) : Int) = y at y0 y1 yn
      refine ⟨hpos, ?_⟩
      refine vc_number L (by omega) fun v v0 v1 => ?_
      obtain ⟨sx, gx, ax⟩ := at_str (ns := ("" : Str) :: ns) (v := x) x0 (by simp; omega)
      obtain ⟨sy, gy, ay⟩ := at_str (ns := ("" : Str) :: ns) (v := y) y0 (by simp; omega)
      rw [List.map_cons] at ax ay
      have mx : sx ∈ ("" : Str) :: ns := List.mem_of_getElem? gx
      have my : sy ∈ ("" : Str) :: ns := List.mem_of_getElem? gy
      have nxy : (("" : Str) :: ns).Nodup → sx ≠ sy := fun nd e => by
        subst e
        obtain ⟨p1, q1⟩ := List.getElem?_eq_some_iff.mp gx
        obtain ⟨p2, q2⟩ := List.getElem?_eq_some_iff.mp gy
        have := (List.getElem_inj nd).mp (q1.trans q2.symm)
        omega
      obtain ⟨dx, ex, hx⟩ := at_some (xs := ws) x0 (by rw [h1]; omega)
      obtain ⟨dy, ey, hy'⟩ := at_some (xs := ws) y0 (by rw [h1]; omega)
      obtain ⟨vx, rfl, vx0, vx1⟩ := h3 _ hx
      obtain ⟨vy, rfl, vy0, vy1⟩ := h3 _ hy'
      have done : ∀ (z : Int) (c3 : Nat) (e1 e2 e3 e4 e5 : EV), -20000000000 ≤ z → z ≤ 20000000000 → c3 ≤ c'' + 8 → Fits (l.length + 1) ∧ G [.val (.ref m), .val (.lst (ns.map .str)), .val (.int k), .val (.int w), .val (.lst (.str ("" : Str) :: ns.map .str)), .val (.lst ws), .lst (l.map dfD ++ [.tup [.str sx, .str sy, .int z]]), e1, e2, e3, e4, e5] c3 := fun z c3 e1 e2 e3 e4 e5 z0 z1 hc3 => ⟨fF _ (by omega), hG _ _ ⟨by omega, l ++ [(sx, sy, z)], e1, e2, e3, e4, e5, by simp [hll], fun t ht => by
        rcases List.mem_append.mp ht with h | h
        · exact hlt t h
        · rw [List.mem_singleton.mp h]; exact ⟨mx, my, nxy, z0, z1⟩, by simp [dfD]⟩⟩
      simp_arith [vd_next, ax, ay, ex, ey, mulOk_r]
      have hll' : (l.map dfD).length = l.length := List.length_map _
      rw [hll']
      split
      · refine ⟨by omega, fun p p0 p1 => ⟨by omega, fun r r0 r1 => ?_⟩⟩
        have hm : mulOk (w - 1) (1 - if r < 1 then r else 1) := by
          have := mulOk_l (i := w - 1) (j := 1 - if r < 1 then r else 1) (by omega)
          rw [this]; trivial
        refine ⟨hm, ?_⟩
        have hb : 0 ≤ (w - 1) * (1 - if r < 1 then r else 1) ∧ (w - 1) * (1 - if r < 1 then r else 1) ≤ 1 := by
          rcases (by omega : w = 1 ∨ w = 2) with rfl | rfl
          · split <;> omega
          · split <;> omega
        exact done _ _ _ _ _ _ _ (by omega) (by omega) (by omega)
      · exact done _ _ _ _ _ _ _ (by omega) (by omega) (by omega)
    · rintro ρ c'' ⟨hc'', l, e1, e2, e3, e4, e5, hll, hlt, rfl⟩
      simp only [List.length_range] at hll hc''
      simp_arith []
      exact hq l _ hll hlt (by omega)
end
end S1

set_option Elab.async false
set_option linter.all false
set_option maxRecDepth 100000
set_option maxHeartbeats 0
namespace K01
open PySem PySem.Spec PyProof.Rows L2 DL
def d_is_whole : DL.Def := ⟨1, 1, (.cons (.ret (.and (.cons (.isi (.v 0) [.int] false) (.cons (.not (.isi (.v 0) [.bool] false)) .nil)))) .nil), [], none⟩
def d_is_unknown : DL.Def := ⟨1, 2, (.cons (.iff (.or (.cons (.not (.isi (.v 0) [.str] false)) (.cons (.not (.cmp2 .le .le (.int 1) (.bi .len (.cons (.v 0) .nil)) (.int 8))) .nil))) (.cons (.ret (.bl false)) .nil) .nil) (.cons (.ret (.bi .all (.cons (.lc true [1] (.cmp .isin (.v 1) (.gl "UNKNOWN_SIGNS")) (.v 1) (.e (.v 0)) .nil) .nil))) .nil)), [], none⟩
def d_is_end : DL.Def := ⟨1, 1, (.cons (.ret (.and (.cons (.isi (.v 0) [.str] false) (.cons (.or (.cons (.cmp .eq (.v 0) (.gl "NOUGHT")) (.cons (.call "is_unknown" (.cons (.v 0) .nil)) .nil))) .nil)))) .nil), [], none⟩
def d_is_difference : DL.Def := ⟨1, 4, (.cons (.iff (.or (.cons (.not (.isi (.v 0) [.tuple] false)) (.cons (.cmp .ne (.bi .len (.cons (.v 0) .nil)) (.int 3)) .nil))) (.cons (.ret (.bl false)) .nil) .nil) (.cons (.asg (.tup (.cons (.v 1) (.cons (.v 2) (.cons (.v 3) .nil)))) (.v 0)) (.cons (.ret (.and (.cons (.call "is_end" (.cons (.v 1) .nil)) (.cons (.call "is_end" (.cons (.v 2) .nil)) (.cons (.cmp .ne (.v 1) (.v 2)) (.cons (.call "is_whole" (.cons (.v 3) .nil)) .nil)))))) .nil))), [], none⟩
def d_is_system : DL.Def := ⟨1, 2, (.cons (.iff (.or (.cons (.not (.isi (.v 0) [.tuple] false)) (.cons (.cmp .gt (.bi .len (.cons (.v 0) .nil)) (.gl "MOST_DIFFERENCES")) .nil))) (.cons (.ret (.bl false)) .nil) .nil) (.cons (.ret (.bi .all (.cons (.lc true [1] (.call "is_difference" (.cons (.v 1) .nil)) (.v 1) (.e (.v 0)) .nil) .nil))) .nil)), [], none⟩
def d_need_system : DL.Def := ⟨1, 1, (.cons (.iff (.not (.call "is_system" (.cons (.v 0) .nil))) (.cons (.rse "NoSystem" (.cons (.str "no system") .nil)) .nil) .nil) .nil), [], none⟩
def d_unknowns : DL.Def := ⟨1, 1, (.cons (.ex (.call "need_system" (.cons (.v 0) .nil))) (.cons .bad .nil)), [], none⟩
def d_holds : DL.Def := ⟨2, 3, (.cons (.ex (.call "need_system" (.cons (.v 0) .nil))) (.cons .bad (.cons .bad .nil))), [], none⟩
def d_solved : DL.Def := ⟨1, 1, (.cons (.ex (.call "need_system" (.cons (.v 0) .nil))) (.cons .bad .nil)), [], none⟩
def d_is_ring : DL.Def := ⟨2, 2, (.cons (.ex (.call "need_system" (.cons (.v 0) .nil))) (.cons .bad .nil)), [], none⟩
def d_tightest : DL.Def := ⟨2, 6, (.cons (.ex (.call "need_system" (.cons (.v 0) .nil))) (.cons .bad (.cons .bad (.cons .bad (.cons .bad .nil))))), [], none⟩
def d_outside : DL.Def := ⟨2, 5, (.cons (.forr (.v 2) (.e (.bin .add (.tup (.cons (.v 0) .nil)) (.v 1))) (.cons (.ex (.call "need_system" (.cons (.v 2) .nil))) .nil)) (.cons .bad (.cons .bad .nil))), [], none⟩
def d_is_paper : DL.Def := ⟨3, 4, (.cons (.forr (.v 3) (.e (.bin .add (.tup (.cons (.v 0) .nil)) (.v 1))) (.cons (.ex (.call "need_system" (.cons (.v 3) .nil))) .nil)) (.cons .bad .nil)), [], none⟩
def d__law_begun : DL.Def := ⟨2, 3, (.cons (.asg (.v 2) (.bin .add (.int 1) (.bin .mod (.bin .pow (.bin .add (.bin .add (.bin .mul (.bin .mod (.v 0) (.int 2147483647)) (.int 48271)) (.bin .mul (.int 104729) (.v 1))) (.int 7)) (.int 3)) (.int 2147483629)))) (.cons (.iff (.cmp .ge (.v 0) (.bin .pow (.int 10) (.int 18))) (.cons (.ret (.lst false (.cons (.bin .sub (.v 0) (.bin .pow (.int 10) (.int 18))) (.cons (.v 2) (.cons (.int 0) .nil))))) .nil) .nil) (.cons (.ret (.lst false (.cons (.int 0) (.cons (.v 2) (.cons (.int 0) .nil))))) .nil))), [], none⟩
def d__law_next : DL.Def := ⟨2, 4, (.cons (.iff (.cmp .gt (.ix (.v 0) (.int 0)) (.int 0)) (.cons (.asg (.v 3) (.bin .mod (.ix (.v 0) (.int 0)) (.v 1))) (.cons (.asg (.ix (.v 0) (.int 0)) (.bin .fdiv (.ix (.v 0) (.int 0)) (.v 1))) (.cons (.ret (.v 3)) .nil))) .nil) (.cons (.asg (.ix (.v 0) (.int 2)) (.bin .add (.ix (.v 0) (.int 2)) (.int 1))) (.cons (.asg (.v 2) (.bin .mod (.bin .pow (.bin .add (.bin .add (.bin .mul (.ix (.v 0) (.int 1)) (.bin .add (.bin .mul (.int 2) (.ix (.v 0) (.int 2))) (.int 1))) (.bin .mul (.bin .mul (.int 7919) (.ix (.v 0) (.int 2))) (.ix (.v 0) (.int 2)))) (.int 11)) (.int 5)) (.int 2147483647))) (.cons (.ret (.bin .mod (.bin .fdiv (.v 2) (.int 11)) (.v 1))) .nil)))), [], none⟩
def d__law_pick : DL.Def := ⟨2, 2, (.cons (.ret (.ix (.v 1) (.call "_law_next" (.cons (.v 0) (.cons (.bi .len (.cons (.v 1) .nil)) .nil))))) .nil), [], none⟩
def d__law_unknowns : DL.Def := ⟨2, 7, (.cons (.asg (.v 2) (.str "abcdefghijklmnopqrstuvwxyz0123456789")) (.cons (.asg (.v 3) (.call "_law_next" (.cons (.v 0) (.cons (.int 36) .nil)))) (.cons (.asg (.v 4) (.lst true (.cons (.str "") (.cons (.str "1") (.cons (.str "2") (.cons (.str "x") (.cons (.str "qq0") (.cons (.str "1234567") .nil)))))))) (.cons (.asg (.v 5) (.call "_law_next" (.cons (.v 0) (.cons (.int 6) .nil)))) (.cons (.ret (.lc true [6] (.bin .add (.ix (.v 2) (.bin .mod (.bin .add (.v 3) (.bin .mul (.int 5) (.v 6))) (.int 36))) (.ix (.v 4) (.bin .mod (.bin .add (.v 5) (.bin .mul (.v 6) (.v 6))) (.int 6)))) (.v 6) (.rng1 (.v 1)) .nil)) .nil))))), [], none⟩
def d__law_number : DL.Def := ⟨1, 2, (.cons (.asg (.v 1) (.call "_law_next" (.cons (.v 0) (.cons (.int 9) .nil)))) (.cons (.iff (.cmp .eq (.v 1) (.int 8)) (.cons (.ret (.bin .sub (.call "_law_next" (.cons (.v 0) (.cons (.bin .mul (.int 2) (.bin .pow (.int 10) (.int 9))) .nil))) (.bin .pow (.int 10) (.int 9)))) .nil) .nil) (.cons (.ret (.bin .sub (.call "_law_next" (.cons (.v 0) (.cons (.int 9) .nil))) (.ix (.lst true (.cons (.int 4) (.cons (.int 4) (.cons (.int 2) (.cons (.int 0) (.cons (.int 4) (.cons (.int 6) (.cons (.int 3) (.cons (.int 4) .nil))))))))) (.v 1)))) .nil))), [], none⟩
def d__law_system : DL.Def := ⟨3, 12, (.cons (.asg (.v 3) (.call "_law_next" (.cons (.v 0) (.cons (.int 3) .nil)))) (.cons (.asg (.v 4) (.bin .add (.lst true (.cons (.str "") .nil)) (.v 1))) (.cons (.asg (.v 5) (.lc true [11] (.call "_law_number" (.cons (.v 0) .nil)) (.v 11) (.e (.v 4)) .nil)) (.cons (.asg (.v 6) (.lst false .nil)) (.cons (.forr (.v 7) (.rng1 (.v 2)) (.cons (.asg (.v 8) (.call "_law_next" (.cons (.v 0) (.cons (.bi .len (.cons (.v 4) .nil)) .nil)))) (.cons (.asg (.v 9) (.bin .mod (.bin .add (.bin .add (.v 8) (.int 1)) (.call "_law_next" (.cons (.v 0) (.cons (.bin .sub (.bi .len (.cons (.v 4) .nil)) (.int 1)) .nil)))) (.bi .len (.cons (.v 4) .nil)))) (.cons (.asg (.v 10) (.call "_law_number" (.cons (.v 0) .nil))) (.cons (.iff (.cmp .gt (.v 3) (.int 0)) (.cons (.asg (.v 10) (.bin .sub (.bin .add (.bin .sub (.ix (.v 5) (.v 8)) (.ix (.v 5) (.v 9))) (.call "_law_next" (.cons (.v 0) (.cons (.int 4) .nil)))) (.bin .mul (.bin .sub (.v 3) (.int 1)) (.bin .sub (.int 1) (.bi .min2 (.cons (.int 1) (.cons (.call "_law_next" (.cons (.v 0) (.cons (.int 6) .nil))) .nil))))))) .nil) .nil) (.cons (.ex (.mt .append (.v 6) (.cons (.tup (.cons (.ix (.v 4) (.v 8)) (.cons (.ix (.v 4) (.v 9)) (.cons (.v 10) .nil)))) .nil))) .nil)))))) (.cons (.ret (.bi .tuple (.cons (.v 6) .nil))) .nil)))))), [], none⟩
def d__law_is_end : DL.Def := ⟨1, 2, (.cons (.iff (.or (.cons (.not (.isi (.v 0) [.str] false)) (.cons (.cmp .gt (.bi .len (.cons (.v 0) .nil)) (.int 8)) .nil))) (.cons (.ret (.bl false)) .nil) .nil) (.cons (.ret (.cmp .eq (.lc true [1] (.v 1) (.v 1) (.e (.v 0)) (.cons (.cmp .notin (.v 1) (.str "abcdefghijklmnopqrstuvwxyz0123456789")) .nil)) (.lst true .nil))) .nil)), [], none⟩
def d__law_is_system : DL.Def := ⟨1, 2, (.cons (.iff (.or (.cons (.not (.isi (.v 0) [.tuple] false)) (.cons (.cmp .gt (.bi .len (.cons (.v 0) .nil)) (.int 120)) .nil))) (.cons (.ret (.bl false)) .nil) .nil) (.cons (.forr (.v 1) (.e (.v 0)) (.cons (.iff (.or (.cons (.not (.isi (.v 1) [.tuple] false)) (.cons (.cmp .ne (.bi .len (.cons (.v 1) .nil)) (.int 3)) (.cons (.not (.call "_law_is_end" (.cons (.ix (.v 1) (.int 0)) .nil))) (.cons (.not (.call "_law_is_end" (.cons (.ix (.v 1) (.int 1)) .nil))) .nil))))) (.cons (.ret (.bl false)) .nil) .nil) (.cons (.iff (.or (.cons (.cmp .eq (.ix (.v 1) (.int 0)) (.ix (.v 1) (.int 1))) (.cons (.not (.isi (.ix (.v 1) (.int 2)) [.int] false)) (.cons (.isi (.ix (.v 1) (.int 2)) [.bool] false) .nil)))) (.cons (.ret (.bl false)) .nil) .nil) .nil))) (.cons (.ret (.bl true)) .nil))), [], none⟩
def d__law_changed : DL.Def := ⟨2, 6, (.cons (.asg (.v 2) (.call "_law_next" (.cons (.v 0) (.cons (.int 5) .nil)))) (.cons (.iff (.and (.cons (.isi (.v 1) [.tuple] false) (.cons (.cmp .gt (.bi .len (.cons (.v 1) .nil)) (.int 0)) (.cons (.cmp .gt (.v 2) (.int 0)) .nil)))) (.cons (.asg (.v 4) (.call "_law_next" (.cons (.v 0) (.cons (.bi .len (.cons (.v 1) .nil)) .nil)))) (.cons (.ret (.bin .add (.bin .add (.sl (.v 1) .nil (.cons (.v 4) .nil)) (.tup (.cons (.call "_law_changed" (.cons (.v 0) (.cons (.ix (.v 1) (.v 4)) .nil))) .nil))) (.sl (.v 1) (.cons (.bin .add (.v 4) (.int 1)) .nil) .nil))) .nil)) .nil) (.cons (.par [5, 4] (.cons (.call "_law_next" (.cons (.v 0) (.cons (.int 60) .nil))) (.cons (.call "_law_next" (.cons (.v 0) (.cons (.int 40) .nil))) .nil))) (.cons (.asg (.v 3) (.lst true (.cons .non (.cons (.bl true) (.cons (.int 0) (.cons (.neg (.int 7)) (.cons (.str "") (.cons (.str "x") (.cons (.str "A") (.cons (.tup .nil) (.cons (.lst true .nil) (.cons (.dct true .nil) (.cons (.tup (.cons (.str "a") (.cons (.str "b") (.cons (.int 1) .nil)))) (.cons (.tup (.cons (.str "a") (.cons (.str "") (.cons (.bl true) .nil)))) (.cons (.bin .pow (.int 10) (.int 30)) (.cons (.str "abcdefghi") (.cons (.str "a b") .nil))))))))))))))))) (.cons (.iff (.isi (.v 1) [.tuple] false) (.cons (.asg (.v 4) (.bin .mod (.v 4) (.bin .add (.bi .len (.cons (.v 1) .nil)) (.int 1)))) (.cons (.asg (.v 3) (.bin .add (.v 3) (.lst true (.cons (.bi (.list true) (.cons (.v 1) .nil)) (.cons (.bin .add (.sl (.v 1) .nil (.cons (.v 4) .nil)) (.sl (.v 1) (.cons (.bin .add (.v 4) (.int 1)) .nil) .nil)) (.cons (.bin .add (.bin .add (.sl (.v 1) .nil (.cons (.v 4) .nil)) (.sl (.sl (.v 1) (.cons (.v 4) .nil) .nil) .nil (.cons (.int 1) .nil))) (.sl (.v 1) (.cons (.v 4) .nil) .nil)) (.cons (.rev (.v 1)) .nil))))))) (.cons (.asg (.v 3) (.bin .add (.v 3) (.lst true (.cons (.bin .add (.v 1) (.tup (.cons (.str "") .nil))) (.cons (.bin .add (.v 1) (.tup (.cons (.tup (.cons (.str "a") (.cons (.str "b") (.cons (.int 0) .nil)))) .nil))) .nil))))) .nil))) (.cons (.iff (.isi (.v 1) [.int] false) (.cons (.asg (.v 3) (.bin .add (.v 3) (.lst true (.cons (.bin .add (.v 1) (.int 1)) (.cons (.neg (.v 1)) (.cons (.bi .strI (.cons (.v 1) .nil)) (.cons (.tup (.cons (.v 1) .nil)) .nil))))))) .nil) (.cons (.iff (.isi (.v 1) [.str] false) (.cons (.asg (.v 4) (.bin .mod (.v 4) (.bin .add (.bi .len (.cons (.v 1) .nil)) (.int 1)))) (.cons (.asg (.v 3) (.bin .add (.v 3) (.lst true (.cons (.bin .add (.bin .add (.sl (.v 1) .nil (.cons (.v 4) .nil)) (.str "b")) (.sl (.v 1) (.cons (.v 4) .nil) .nil)) (.cons (.bin .add (.bin .add (.sl (.v 1) .nil (.cons (.v 4) .nil)) (.str "-")) (.sl (.v 1) (.cons (.bin .add (.v 4) (.int 1)) .nil) .nil)) (.cons (.mt .upper (.v 1) .nil) (.cons (.bin .add (.v 1) (.str "1")) .nil))))))) .nil)) .nil) .nil)) .nil)) (.cons (.ret (.ix (.v 3) (.bin .mod (.v 5) (.bi .len (.cons (.v 3) .nil))))) .nil)))))), [], none⟩
def d__law_call : DL.Def := ⟨2, 2, (.cons (.iff (.cmp .gt (.v 0) (.int 7)) (.cons (.ret (.ite (.cmp .eq (.v 0) (.int 8)) (.call "is_paper" (.cons (.v 1) (.cons (.tup .nil) (.cons (.tup .nil) .nil)))) (.call "is_paper" (.cons (.v 1) (.cons (.tup (.cons (.tup .nil) .nil)) (.cons (.tup (.cons (.int 0) (.cons (.tup .nil) .nil))) .nil)))))) .nil) .nil) (.cons (.iff (.cmp .lt (.v 0) (.int 2)) (.cons (.ret (.ite (.cmp .eq (.v 0) (.int 0)) (.call "unknowns" (.cons (.v 1) .nil)) (.call "solved" (.cons (.v 1) .nil)))) .nil) .nil) (.cons (.iff (.cmp .lt (.v 0) (.int 4)) (.cons (.ret (.ite (.cmp .eq (.v 0) (.int 2)) (.call "holds" (.cons (.v 1) (.cons (.dct true .nil) .nil))) (.call "is_ring" (.cons (.v 1) (.cons (.tup .nil) .nil))))) .nil) .nil) (.cons (.iff (.cmp .lt (.v 0) (.int 6)) (.cons (.ret (.ite (.cmp .eq (.v 0) (.int 4)) (.call "tightest" (.cons (.v 1) (.cons (.lst true .nil) .nil))) (.call "outside" (.cons (.v 1) (.cons (.tup .nil) .nil))))) .nil) .nil) (.cons (.ret (.ite (.cmp .eq (.v 0) (.int 6)) (.call "outside" (.cons (.tup .nil) (.cons (.tup (.cons (.v 1) .nil)) .nil))) (.call "is_paper" (.cons (.tup .nil) (.cons (.tup (.cons (.v 1) .nil)) (.cons (.tup .nil) .nil)))))) .nil))))), [], none⟩
def d__law_refused : DL.Def := ⟨2, 5, (.cons (.asg (.v 2) (.lst true .nil)) (.cons (.tri (.cons (.asg (.v 2) (.lst true (.cons (.call "_law_call" (.cons (.v 0) (.cons (.v 1) .nil))) .nil))) .nil) (.cons "WeaveError" (some 3) (.cons (.asg (.v 4) (.isc (.v 3) ["Crossed", "NoAccess", "NoPath", "NoPlan", "NoProgram", "NoText", "NoWorth", "TooLong"] true)) (.cons (.asg (.v 2) (.lst true (.cons (.isc (.v 3) ["NoSystem"] false) (.cons (.isc (.v 3) ["ValueError"] false) (.cons (.v 4) .nil))))) .nil)) .nil)) (.cons (.ret (.cmp .eq (.v 2) (.lst true (.cons (.bl true) (.cons (.bl true) (.cons (.bl false) .nil)))))) .nil))), [], none⟩
def d__law_said : DL.Def := ⟨1, 4, (.cons (.par [1, 2] (.cons (.call "_law_is_system" (.cons (.v 0) .nil)) (.cons (.call "is_system" (.cons (.v 0) .nil)) .nil))) (.cons (.iff (.or (.cons (.not (.isi (.v 2) [.bool] false)) (.cons (.cmp .ne (.v 2) (.v 1)) .nil))) (.cons (.ret (.bl false)) .nil) .nil) (.cons (.ret (.or (.cons (.v 1) (.cons (.cmp .eq (.lc true [3] (.v 3) (.v 3) (.rng1 (.int 10)) (.cons (.not (.call "_law_refused" (.cons (.v 3) (.cons (.v 0) .nil)))) .nil)) (.lst true .nil)) .nil)))) .nil))), [], none⟩
def d__law_right : DL.Def := ⟨2, 8, (.cons (.asg (.v 2) (.call "_law_begun" (.cons (.v 0) (.cons (.v 1) .nil)))) (.cons (.asg (.v 3) (.call "_law_next" (.cons (.v 2) (.cons (.int 6) .nil)))) (.cons (.asg (.v 4) (.call "_law_unknowns" (.cons (.v 2) (.cons (.bin .add (.int 1) (.call "_law_next" (.cons (.v 2) (.cons (.int 7) .nil)))) .nil)))) (.cons (.asg (.v 5) (.call "_law_system" (.cons (.v 2) (.cons (.v 4) (.cons (.call "_law_next" (.cons (.v 2) (.cons (.int 31) .nil))) .nil))))) (.cons (.iff (.cmp .eq (.v 3) (.int 5)) (.cons (.asg (.v 5) (.call "_law_system" (.cons (.v 2) (.cons (.v 4) (.cons (.int 121) .nil))))) (.cons (.iff (.or (.cons (.not (.call "_law_said" (.cons (.v 5) .nil))) (.cons (.not (.call "_law_said" (.cons (.sl (.v 5) .nil (.cons (.int 120) .nil)) .nil))) .nil))) (.cons (.ret (.bl false)) .nil) .nil) .nil)) .nil) (.cons (.forr (.v 6) (.e (.lst true (.cons (.v 5) (.cons (.bi (.list true) (.cons (.v 5) .nil)) (.cons (.bin .add (.v 5) (.tup (.cons (.tup (.cons (.ix (.v 4) (.int 0)) (.cons (.str "") (.cons (.int 0) .nil)))) .nil))) (.cons .non (.cons (.v 4) .nil))))))) (.cons (.iff (.not (.call "_law_said" (.cons (.v 6) .nil))) (.cons (.ret (.bl false)) .nil) .nil) .nil)) (.cons (.forr (.v 7) (.rng1 (.int 8)) (.cons (.iff (.not (.call "_law_said" (.cons (.call "_law_changed" (.cons (.v 2) (.cons (.v 5) .nil))) .nil))) (.cons (.ret (.bl false)) .nil) .nil) .nil)) (.cons (.ret (.bl true)) .nil)))))))), [], none⟩
def d_law : DL.Def := ⟨1, 3, (.cons (.forr (.tup (.cons (.v 1) (.cons (.v 2) .nil))) (.enum (.sl (.bin .add (.v 0) (.lst true (.cons (.int 3) .nil))) .nil (.cons (.bi .max2 (.cons (.int 1) (.cons (.bi .min2 (.cons (.int 16) (.cons (.bi .len (.cons (.v 0) .nil)) .nil))) .nil))) .nil))) (.cons (.iff (.not (.call "_law_right" (.cons (.v 2) (.cons (.v 1) .nil)))) (.cons (.ret (.bl false)) .nil) .nil) .nil)) (.cons (.ret (.bl true)) .nil)), [], none⟩
def md : DL.Mod := ⟨[⟨"is_whole", 15, none, ["thing"], d_is_whole⟩,
  ⟨"is_unknown", 16, none, ["thing", "sign"], d_is_unknown⟩,
  ⟨"is_end", 17, none, ["thing"], d_is_end⟩,
  ⟨"is_difference", 18, none, ["thing", "x", "y", "c"], d_is_difference⟩,
  ⟨"is_system", 19, none, ["thing", "one"], d_is_system⟩,
  ⟨"need_system", 20, none, ["thing"], d_need_system⟩,
  ⟨"unknowns", 22, none, ["system"], d_unknowns⟩,
  ⟨"holds", 25, none, ["system", "worths", "name"], d_holds⟩,
  ⟨"solved", 28, none, ["system"], d_solved⟩,
  ⟨"is_ring", 30, none, ["system", "ring"], d_is_ring⟩,
  ⟨"tightest", 32, none, ["system", "some", "ways", "names", "x", "y"], d_tightest⟩,
  ⟨"outside", 36, none, ["system", "covers", "one", "names", "name"], d_outside⟩,
  ⟨"is_paper", 38, none, ["system", "covers", "paper", "one"], d_is_paper⟩,
  ⟨"_law_begun", 40, none, ["_law_cell", "_law_k", "_law_seed"], d__law_begun⟩,
  ⟨"_law_next", 41, none, ["_law_draw", "_law_size", "_law_mixed", "_law_found"], d__law_next⟩,
  ⟨"_law_pick", 42, none, ["_law_draw", "_law_some"], d__law_pick⟩,
  ⟨"_law_unknowns", 43, none, ["_law_draw", "_law_many", "_law_letters", "_law_lead", "_law_tails", "_law_turn", "_law_k"], d__law_unknowns⟩,
  ⟨"_law_number", 44, none, ["_law_draw", "_law_way"], d__law_number⟩,
  ⟨"_law_system", 45, none, ["_law_draw", "_law_names", "_law_many", "_law_way", "_law_ends", "_law_worths", "_law_found", "_law_k", "_law_x", "_law_y", "_law_c", "_law_name"], d__law_system⟩,
  ⟨"_law_is_end", 46, none, ["_law_thing", "_law_sign"], d__law_is_end⟩,
  ⟨"_law_is_system", 47, none, ["_law_thing", "_law_one"], d__law_is_system⟩,
  ⟨"_law_changed", 48, none, ["_law_draw", "_law_whole", "_law_way", "_law_some", "_law_at", "_law_pick_here"], d__law_changed⟩,
  ⟨"_law_call", 49, none, ["_law_way", "_law_thing"], d__law_call⟩,
  ⟨"_law_refused", 50, none, ["_law_way", "_law_thing", "_law_kinds", "e", "_law_others"], d__law_refused⟩,
  ⟨"_law_said", 51, none, ["_law_thing", "_law_due", "_law_found", "_law_way"], d__law_said⟩,
  ⟨"_law_right", 52, none, ["_law_cell", "_law_k", "_law_draw", "_law_great", "_law_names", "_law_system_here", "_law_thing", "_law_turn"], d__law_right⟩,
  ⟨"law", 53, none, ["_law_script", "_law_k", "_law_cell"], d_law⟩],
  [("MOST_DIFFERENCES", (.int 120)), ("UNKNOWN_SIGNS", (.str "abcdefghijklmnopqrstuvwxyz0123456789")), ("NOUGHT", (.str ""))],
  [],
  [],
  ["ValueError", "all", "bool", "enumerate", "int", "isinstance", "len", "list", "max", "min", "range", "str", "tuple"],
  10000,
  [],
  [],
  [("NoSystem", [])],
  [],
  [(("NoSystem", "Crossed"), false), (("NoSystem", "NoAccess"), false), (("NoSystem", "NoPath"), false), (("NoSystem", "NoPlan"), false), (("NoSystem", "NoProgram"), false), (("NoSystem", "NoSystem"), true), (("NoSystem", "NoText"), false), (("NoSystem", "NoWorth"), false), (("NoSystem", "TooLong"), false), (("NoSystem", "ValueError"), true)],
  [(("NoSystem", "WeaveError"), true)],
  ["Crossed", "NoAccess", "NoPath", "NoPlan", "NoProgram", "NoSystem", "NoText", "NoWorth", "TooLong", "WeaveError"]⟩
theorem D_is_whole : List.lookup ("is_whole" : Str) md.tb.defs = some d_is_whole := rfl
theorem D_is_unknown : List.lookup ("is_unknown" : Str) md.tb.defs = some d_is_unknown := rfl
theorem D_is_end : List.lookup ("is_end" : Str) md.tb.defs = some d_is_end := rfl
theorem D_is_difference : List.lookup ("is_difference" : Str) md.tb.defs = some d_is_difference := rfl
theorem D_is_system : List.lookup ("is_system" : Str) md.tb.defs = some d_is_system := rfl
theorem D_need_system : List.lookup ("need_system" : Str) md.tb.defs = some d_need_system := rfl
theorem D_unknowns : List.lookup ("unknowns" : Str) md.tb.defs = some d_unknowns := rfl
theorem D_holds : List.lookup ("holds" : Str) md.tb.defs = some d_holds := rfl
theorem D_solved : List.lookup ("solved" : Str) md.tb.defs = some d_solved := rfl
theorem D_is_ring : List.lookup ("is_ring" : Str) md.tb.defs = some d_is_ring := rfl
theorem D_tightest : List.lookup ("tightest" : Str) md.tb.defs = some d_tightest := rfl
theorem D_outside : List.lookup ("outside" : Str) md.tb.defs = some d_outside := rfl
theorem D_is_paper : List.lookup ("is_paper" : Str) md.tb.defs = some d_is_paper := rfl
theorem D__law_begun : List.lookup ("_law_begun" : Str) md.tb.defs = some d__law_begun := rfl
theorem D__law_next : List.lookup ("_law_next" : Str) md.tb.defs = some d__law_next := rfl
theorem D__law_pick : List.lookup ("_law_pick" : Str) md.tb.defs = some d__law_pick := rfl
theorem D__law_unknowns : List.lookup ("_law_unknowns" : Str) md.tb.defs = some d__law_unknowns := rfl
theorem D__law_number : List.lookup ("_law_number" : Str) md.tb.defs = some d__law_number := rfl
theorem D__law_system : List.lookup ("_law_system" : Str) md.tb.defs = some d__law_system := rfl
theorem D__law_is_end : List.lookup ("_law_is_end" : Str) md.tb.defs = some d__law_is_end := rfl
theorem D__law_is_system : List.lookup ("_law_is_system" : Str) md.tb.defs = some d__law_is_system := rfl
theorem D__law_changed : List.lookup ("_law_changed" : Str) md.tb.defs = some d__law_changed := rfl
theorem D__law_call : List.lookup ("_law_call" : Str) md.tb.defs = some d__law_call := rfl
theorem D__law_refused : List.lookup ("_law_refused" : Str) md.tb.defs = some d__law_refused := rfl
theorem D__law_said : List.lookup ("_law_said" : Str) md.tb.defs = some d__law_said := rfl
theorem D__law_right : List.lookup ("_law_right" : Str) md.tb.defs = some d__law_right := rfl
theorem D_law : List.lookup ("law" : Str) md.tb.defs = some d_law := rfl
theorem G_MOST_DIFFERENCES : List.lookup ("MOST_DIFFERENCES" : Str) md.tb.glob = (some (.int 120) : Option D) := rfl
theorem G_UNKNOWN_SIGNS : List.lookup ("UNKNOWN_SIGNS" : Str) md.tb.glob = (some (.str "abcdefghijklmnopqrstuvwxyz0123456789") : Option D) := rfl
theorem G_NOUGHT : List.lookup ("NOUGHT" : Str) md.tb.glob = (some (.str "") : Option D) := rfl
theorem A_is_whole : okG md.tb false "is_whole" 1 = true := rfl
theorem A_is_unknown : okG md.tb false "is_unknown" 1 = true := rfl
theorem A_is_end : okG md.tb false "is_end" 1 = true := rfl
theorem A_is_difference : okG md.tb false "is_difference" 1 = true := rfl
theorem A_is_system : okG md.tb false "is_system" 1 = true := rfl
theorem A_need_system : okG md.tb false "need_system" 1 = true := rfl
theorem A_unknowns : okG md.tb false "unknowns" 1 = true := rfl
theorem A_holds : okG md.tb false "holds" 2 = true := rfl
theorem A_solved : okG md.tb false "solved" 1 = true := rfl
theorem A_is_ring : okG md.tb false "is_ring" 2 = true := rfl
theorem A_tightest : okG md.tb false "tightest" 2 = true := rfl
theorem A_outside : okG md.tb false "outside" 2 = true := rfl
theorem A_is_paper : okG md.tb false "is_paper" 3 = true := rfl
theorem A__law_begun : okG md.tb false "_law_begun" 2 = true := rfl
theorem A__law_next : okG md.tb false "_law_next" 2 = true := rfl
theorem A__law_pick : okG md.tb false "_law_pick" 2 = true := rfl
theorem A__law_unknowns : okG md.tb false "_law_unknowns" 2 = true := rfl
theorem A__law_number : okG md.tb false "_law_number" 1 = true := rfl
theorem A__law_system : okG md.tb false "_law_system" 3 = true := rfl
theorem A__law_is_end : okG md.tb false "_law_is_end" 1 = true := rfl
theorem A__law_is_system : okG md.tb false "_law_is_system" 1 = true := rfl
theorem A__law_changed : okG md.tb false "_law_changed" 2 = true := rfl
theorem A__law_call : okG md.tb false "_law_call" 2 = true := rfl
theorem A__law_refused : okG md.tb false "_law_refused" 2 = true := rfl
theorem A__law_said : okG md.tb false "_law_said" 1 = true := rfl
theorem A__law_right : okG md.tb false "_law_right" 2 = true := rfl
theorem A_law : okG md.tb false "law" 1 = true := rfl
theorem X_NoSystem : List.lookup ("NoSystem" : Str) md.tb.exk = some [] := rfl
theorem XM_NoSystem_WeaveError : List.lookup (("NoSystem" : Str), ("WeaveError" : Str)) md.tb.exm = some true := rfl
theorem XI_NoSystem_Crossed : List.lookup (("NoSystem" : Str), ("Crossed" : Str)) md.tb.isx = some false := rfl
theorem XI_NoSystem_NoAccess : List.lookup (("NoSystem" : Str), ("NoAccess" : Str)) md.tb.isx = some false := rfl
theorem XI_NoSystem_NoPath : List.lookup (("NoSystem" : Str), ("NoPath" : Str)) md.tb.isx = some false := rfl
theorem XI_NoSystem_NoPlan : List.lookup (("NoSystem" : Str), ("NoPlan" : Str)) md.tb.isx = some false := rfl
theorem XI_NoSystem_NoProgram : List.lookup (("NoSystem" : Str), ("NoProgram" : Str)) md.tb.isx = some false := rfl
theorem XI_NoSystem_NoSystem : List.lookup (("NoSystem" : Str), ("NoSystem" : Str)) md.tb.isx = some true := rfl
theorem XI_NoSystem_NoText : List.lookup (("NoSystem" : Str), ("NoText" : Str)) md.tb.isx = some false := rfl
theorem XI_NoSystem_NoWorth : List.lookup (("NoSystem" : Str), ("NoWorth" : Str)) md.tb.isx = some false := rfl
theorem XI_NoSystem_TooLong : List.lookup (("NoSystem" : Str), ("TooLong" : Str)) md.tb.isx = some false := rfl
theorem XI_NoSystem_ValueError : List.lookup (("NoSystem" : Str), ("ValueError" : Str)) md.tb.isx = some true := rfl
def signs : Str := "abcdefghijklmnopqrstuvwxyz0123456789"
def sgB (c : Nat) : Bool := decide (c ∈ signs.cps.toList)
def unkS (x : Str) : Bool := decide (1 ≤ x.length) && (decide (x.length ≤ 8) && x.cps.toList.all sgB)
def endB : D → Bool
  | .str x => x == "" || unkS x
  | _ => false
def wholeB : D → Bool
  | .int _ => true
  | _ => false
def sameB : D → D → Bool
  | .str a, .str b => a == b
  | _, _ => false
def diffB : D → Bool
  | .tup [a, b, c] => (endB a && endB b) && (!sameB a b && wholeB c)
  | _ => false
def sysB : D → Bool
  | .tup xs => decide (xs.length ≤ 120) && xs.all diffB
  | _ => false
mutual
/-- what may be asked -/
def okq : D → Bool
  | .non => true
  | .bl _ => true
  | .int _ => true
  | .str x => decide (x.length ≤ 1000)
  | .tup xs => decide (xs.length ≤ 1000) && okqs xs
  | .lst xs => decide (xs.length ≤ 1000) && okqs xs
  | .dct [] [] => true
  | _ => false
def okqs : List D → Bool
  | [] => true
  | x :: xs => okq x && okqs xs
end
theorem okqs_mem : ∀ {xs : List D}, okqs xs = true → ∀ x ∈ xs, okq x = true
  | [], _, x, hx => by cases hx
  | y :: ys, h, x, hx => by
    simp only [okqs, Bool.and_eq_true] at h
    rcases List.mem_cons.mp hx with rfl | hx
    · exact h.1
    · exact okqs_mem h.2 x hx
theorem okq_tup {xs : List D} (h : okq (.tup xs) = true) : xs.length ≤ 1000 ∧ ∀ x ∈ xs, okq x = true := by
  simp only [okq, Bool.and_eq_true, decide_eq_true_eq] at h
  exact ⟨h.1, okqs_mem h.2⟩
theorem okq_str {x : Str} (h : okq (.str x) = true) : x.length ≤ 1000 := by
  simpa [okq] using h
section
variable {n : Nat} {d : D}
theorem is_dd : isiB (.dct [] []) .tuple = some false ∧ isiB (.dct [] []) .str = some false ∧ isiB (.dct [] []) .int = some false ∧ isiB (.dct [] []) .bool = some false := ⟨rfl, rfl, rfl, rfl⟩
theorem pr_whole (h : okq d = true) : PR md.tb (n + 1) "is_whole" [d] (.bl (wholeB d)) := by
  refine pl_def D_is_whole rfl ?_
  match d, h with
  | .non, _ => simp_arith [d_is_whole, wholeB]
  | .bl b, _ => simp_arith [d_is_whole, wholeB]
  | .int b, _ => simp_arith [d_is_whole, wholeB]
  | .str b, _ => simp_arith [d_is_whole, wholeB]
  | .tup b, _ => simp_arith [d_is_whole, wholeB]
  | .lst b, _ => simp_arith [d_is_whole, wholeB]
  | .dct [] [], _ => simp_arith [d_is_whole, wholeB, is_dd.2.2.1]
theorem lcd_all {body : D → Nat → (Option D → Nat → Prop) → Prop} {k : List D → Nat → Prop} {t : Fx (body, k)} (f : D → D) {ds xs : List D} {c : Nat} (h : ∀ d ∈ ds, ∀ c K, body d c K = K (some (f d)) c) : wLCd body ds xs c k t = k (xs ++ ds.map f) c := by
  have e : ds = ds.map id := by simp
  have := lcd_tmap (enc := id) (body := body) (k := k) (t := t) f (l := ds) (xs := xs) (c := c) h
  rwa [← e] at this
theorem signs_len (x : Str) : (signsD x).length = x.length := by simp [signsD, Str.length]
theorem pr_unknown {x : Str} (h : x.length ≤ 1000) : PR md.tb (n + 1) "is_unknown" [.str x] (.bl (unkS x)) := by
  refine pl_def D_is_unknown rfl ?_
  have hF : Fits x.length := fits (by omega)
  have hF2 : Fits (signsD x).length := fits (by rw [signs_len]; omega)
  simp_arith [d_is_unknown, G_UNKNOWN_SIGNS, hF, hF2]
  have key : ∀ (K : List D → Nat → Prop) (body : D → Nat → (Option D → Nat → Prop) → Prop), (∀ k : Nat, ∀ c G, body (.str ⟨#[k]⟩) c G = G (some (.bl (sgB k))) c) → wLCd body (signsD x) [] 0 K = K (x.cps.toList.map fun k => D.bl (sgB k)) 0 := by
    intro K body hb
    unfold signsD
    rw [lcd_tmap (fun k => D.bl (sgB k)) (fun a _ c G => hb a c G), List.nil_append]
  rw [key _ _ (fun k c G => by simp_arith [G_UNKNOWN_SIGNS]; rfl)]
  simp_arith [DL.bools_map]
  by_cases h1 : 1 ≤ x.length
  · by_cases h8 : x.length ≤ 8
    · have e1 : (1 : Int) ≤ (x.length : Int) := by omega
      have e8 : ((x.length : Int) ≤ 8) = True := eq_true (by omega)
      simp only [if_pos e1, e8, decide_true, Bool.not_true, Bool.false_eq_true, if_false, unkS, h1, h8, Bool.true_and, List.all_map, Function.comp_def, id]
    · have e8 : ((x.length : Int) ≤ 8) = False := eq_false (by omega)
      simp only [e8, decide_false, Bool.not_false, if_true, unkS, h8, Bool.false_and, Bool.and_false]
      split <;> trivial
  · have e1 : ¬ (1 : Int) ≤ (x.length : Int) := by omega
    simp only [if_neg e1, unkS, h1, decide_false, Bool.false_and]
theorem is_tt {xs : List D} : isiB (.tup xs) .tuple = some true := rfl
theorem pr_end (h : okq d = true) : PR md.tb (n + 2) "is_end" [d] (.bl (endB d)) := by
  refine pl_def D_is_end rfl ?_
  match d, h with
  | .non, _ => simp_arith [d_is_end, endB]
  | .bl b, _ => simp_arith [d_is_end, endB]
  | .int b, _ => simp_arith [d_is_end, endB]
  | .tup b, _ => simp_arith [d_is_end, endB]
  | .lst b, _ => simp_arith [d_is_end, endB]
  | .dct [] [], _ => simp_arith [d_is_end, endB, is_dd.2.1]
  | .str x, h =>
    simp_arith [d_is_end, endB, G_NOUGHT, (pr_unknown (n := n) (okq_str h)).call]
    cases x == "" <;> rfl
theorem len3 {xs : List D} (h : ((xs.length : Int) == 3) = true) : ∃ a b c, xs = [a, b, c] := by
  have : xs.length = 3 := by
    have := of_decide_eq_true (by simpa using h : decide ((xs.length : Int) = 3) = true)
    omega
  match xs, this with
  | [a, b, c], _ => exact ⟨a, b, c, rfl⟩
theorem diff_no {xs : List D} (h : ¬ ((xs.length : Int) == 3) = true) : diffB (.tup xs) = false := by
  match xs, h with
  | [], _ => rfl
  | [_], _ => rfl
  | [_, _], _ => rfl
  | [_, _, _], h => exact absurd rfl h
  | _ :: _ :: _ :: _ :: _, _ => rfl
theorem pr_difference (h : okq d = true) : PR md.tb (n + 3) "is_difference" [d] (.bl (diffB d)) := by
  refine pl_def D_is_difference rfl ?_
  match d, h with
  | .non, _ => simp_arith [d_is_difference, diffB]
  | .bl b, _ => simp_arith [d_is_difference, diffB]
  | .int b, _ => simp_arith [d_is_difference, diffB]
  | .str b, _ => simp_arith [d_is_difference, diffB]
  | .lst b, _ => simp_arith [d_is_difference, diffB]
  | .dct [] [], _ => simp_arith [d_is_difference, diffB, is_dd.1]
  | .tup xs, h =>
    by_cases hl : ((xs.length : Int) == 3) = true
    · obtain ⟨a, b, e, rfl⟩ := len3 hl
      obtain ⟨_, hm⟩ := okq_tup h
      have ha := hm a (by simp)
      have hb := hm b (by simp)
      have he := hm e (by simp)
      simp_arith [d_is_difference, (pr_end (n := n) ha).call, (pr_end (n := n) hb).call, (pr_whole (n := n + 1) he).call]
      cases ea : endB a with
      | false => simp [diffB, ea]
      | true =>
        cases eb : endB b with
        | false => simp [diffB, ea, eb]
        | true =>
          obtain ⟨x, rfl⟩ : ∃ x, a = .str x := by cases a <;> first | exact ⟨_, rfl⟩ | (cases ea; done)
          obtain ⟨y, rfl⟩ : ∃ x, b = .str x := by cases b <;> first | exact ⟨_, rfl⟩ | (cases eb; done)
          simp_arith [diffB, ea, eb, sameB, (pr_whole (n := n + 1) he).call]
          cases x == y <;> rfl
    · have hl' := eq_false_of_ne_true hl
      simp_arith [d_is_difference, hl', diff_no hl]
theorem pr_system (h : okq d = true) : PR md.tb (n + 4) "is_system" [d] (.bl (sysB d)) := by
  refine pl_def D_is_system rfl ?_
  match d, h with
  | .non, _ => simp_arith [d_is_system, sysB]
  | .bl b, _ => simp_arith [d_is_system, sysB]
  | .int b, _ => simp_arith [d_is_system, sysB]
  | .str b, _ => simp_arith [d_is_system, sysB]
  | .lst b, _ => simp_arith [d_is_system, sysB]
  | .dct [] [], _ => simp_arith [d_is_system, sysB, is_dd.1]
  | .tup xs, h =>
    obtain ⟨hl, hm⟩ := okq_tup h
    have hF : Fits xs.length := fits (by omega)
    simp_arith [d_is_system, G_MOST_DIFFERENCES, hF]
    by_cases h1 : (120 : Int) < (xs.length : Int)
    · rw [if_pos h1]
      have : ¬ xs.length ≤ 120 := by omega
      simp only [sysB, this, decide_false, Bool.false_and]
    · rw [if_neg h1]
      have : xs.length ≤ 120 := by omega
      rw [lcd_all (fun d => .bl (diffB d)) (fun d hd c K => by simp_arith [(pr_difference (n := n) (hm d hd)).call]), List.nil_append]
      simp_arith [DL.bools_map, List.all_map, Function.comp_def, id]
      simp only [sysB, this, decide_true, Bool.true_and]
theorem pr_need (h : okq d = true) (hs : sysB d = true) : PR md.tb (n + 5) "need_system" [d] .non := by
  refine pl_def D_need_system rfl ?_
  simp_arith [d_need_system, (pr_system (n := n) h).call, hs]
abbrev noSys : Exn := ⟨"NoSystem", [], []⟩
theorem prx_need (h : okq d = true) (hs : sysB d = false) : PRX md.tb (n + 5) "need_system" [d] noSys := by
  refine plx_def D_need_system rfl ?_
  simp_arith [d_need_system, (pr_system (n := n) h).call, hs, X_NoSystem]
end

end K01

set_option Elab.async false
set_option linter.all false
set_option maxRecDepth 100000
set_option maxHeartbeats 4000000
namespace K01
open PySem PySem.Spec PyProof.Rows L2 DL
theorem fmc {α : Type} {a : α} {l : List α} {P : α → Prop} : (∀ d ∈ a :: l, P d) = (P a ∧ ∀ d ∈ l, P d) := propext ⟨fun h => ⟨h a (List.mem_cons_self ..), fun d hd => h d (List.mem_cons_of_mem _ hd)⟩, fun h d hd => by
  rcases List.mem_cons.mp hd with rfl | hd
  · exact h.1
  · exact h.2 d hd⟩
theorem fmn {α : Type} {P : α → Prop} : (∀ d ∈ ([] : List α), P d) = True := propext ⟨fun _ => trivial, fun _ d hd => by cases hd⟩
section
variable {n : Nat} {d : D}
theorem okq_nil : okq (.tup []) = true ∧ sysB (.tup []) = true := ⟨rfl, rfl⟩
theorem prx_unknowns (h : okq d = true) (hs : sysB d = false) : PRX md.tb (n + 6) "unknowns" [d] noSys := by
  refine plx_def D_unknowns rfl ?_
  simp_arith [d_unknowns, (prx_need (n := n) h hs).call]
theorem prx_solved (h : okq d = true) (hs : sysB d = false) : PRX md.tb (n + 6) "solved" [d] noSys := by
  refine plx_def D_solved rfl ?_
  simp_arith [d_solved, (prx_need (n := n) h hs).call]
theorem prx_holds {x : D} (h : okq d = true) (hs : sysB d = false) : PRX md.tb (n + 6) "holds" [d, x] noSys := by
  refine plx_def D_holds rfl ?_
  simp_arith [d_holds, (prx_need (n := n) h hs).call]
theorem prx_is_ring {x : D} (h : okq d = true) (hs : sysB d = false) : PRX md.tb (n + 6) "is_ring" [d, x] noSys := by
  refine plx_def D_is_ring rfl ?_
  simp_arith [d_is_ring, (prx_need (n := n) h hs).call]
theorem prx_tightest {x : D} (h : okq d = true) (hs : sysB d = false) : PRX md.tb (n + 6) "tightest" [d, x] noSys := by
  refine plx_def D_tightest rfl ?_
  simp_arith [d_tightest, (prx_need (n := n) h hs).call]
theorem prx_outside1 (h : okq d = true) (hs : sysB d = false) : PRX md.tb (n + 6) "outside" [d, .tup []] noSys := by
  refine plx_def D_outside rfl ?_
  simp_arith [d_outside, DL.ford_cons, (prx_need (n := n) h hs).call]
theorem prx_outside2 (h : okq d = true) (hs : sysB d = false) : PRX md.tb (n + 6) "outside" [.tup [], .tup [d]] noSys := by
  refine plx_def D_outside rfl ?_
  simp_arith [d_outside, DL.ford_cons, (prx_need (n := n) h hs).call, (pr_need (n := n) okq_nil.1 okq_nil.2).call]
theorem prx_paper1 {c x : D} {cs : List D} (hl : cs.length ≤ 100) (h : okq d = true) (hs : sysB d = false) : PRX md.tb (n + 6) "is_paper" [d, .tup cs, x] noSys := by
  refine plx_def D_is_paper rfl ?_
  have hF : Fits (cs.length + 1) := fits (by omega)
  have hF' : Fits (1 + cs.length) := fits (by omega)
  simp_arith [d_is_paper, DL.ford_cons, (prx_need (n := n) h hs).call, hF, hF']
theorem prx_paper2 {x : D} (h : okq d = true) (hs : sysB d = false) : PRX md.tb (n + 6) "is_paper" [.tup [], .tup [d], x] noSys := by
  refine plx_def D_is_paper rfl ?_
  simp_arith [d_is_paper, DL.ford_cons, (prx_need (n := n) h hs).call, (pr_need (n := n) okq_nil.1 okq_nil.2).call]
theorem prx_call {w : Int} (h0 : 0 ≤ w) (h1 : w < 10) (h : okq d = true) (hs : sysB d = false) : PRX md.tb (n + 7) "_law_call" [.int w, d] noSys := by
  refine plx_def D__law_call rfl ?_
  rcases (by omega : w = 0 ∨ w = 1 ∨ w = 2 ∨ w = 3 ∨ w = 4 ∨ w = 5 ∨ w = 6 ∨ w = 7 ∨ w = 8 ∨ w = 9) with rfl | rfl | rfl | rfl | rfl | rfl | rfl | rfl | rfl | rfl
  all_goals
    simp_arith [d__law_call, (prx_unknowns (n := n) h hs).call, (prx_solved (n := n) h hs).call, (prx_holds (n := n) h hs).call, (prx_is_ring (n := n) h hs).call, (prx_tightest (n := n) h hs).call, (prx_outside1 (n := n) h hs).call, (prx_outside2 (n := n) h hs).call, (prx_paper2 (n := n) h hs).call, (prx_paper1 (n := n) (c := .non) (cs := []) (by decide) h hs).call, (prx_paper1 (n := n) (c := .non) (cs := [.tup []]) (by decide) h hs).call]
theorem pr_refused {w : Int} (h0 : 0 ≤ w) (h1 : w < 10) (h : okq d = true) (hs : sysB d = false) : PR md.tb (n + 8) "_law_refused" [.int w, d] (.bl true) := by
  refine pl_def D__law_refused rfl ?_
  simp_arith [d__law_refused, (prx_call (n := n) h0 h1 h hs).call, XM_NoSystem_WeaveError, XI_NoSystem_Crossed, XI_NoSystem_NoAccess, XI_NoSystem_NoPath, XI_NoSystem_NoPlan, XI_NoSystem_NoProgram, XI_NoSystem_NoText, XI_NoSystem_NoWorth, XI_NoSystem_TooLong, XI_NoSystem_NoSystem, XI_NoSystem_ValueError, DL.e_lst]
  rfl
theorem pr_lend (h : okq d = true) : PR md.tb (n + 1) "_law_is_end" [d] (.bl (endB d)) := by
  refine pl_def D__law_is_end rfl ?_
  match d, h with
  | .non, _ => simp_arith [d__law_is_end, endB]
  | .bl b, _ => simp_arith [d__law_is_end, endB]
  | .int b, _ => simp_arith [d__law_is_end, endB]
  | .tup b, _ => simp_arith [d__law_is_end, endB]
  | .lst b, _ => simp_arith [d__law_is_end, endB]
  | .dct [] [], _ => simp_arith [d__law_is_end, endB, is_dd.2.1]
  | .str x, h =>
    have hx := okq_str h
    have hF : Fits x.length := fits (by omega)
    have hF2 : Fits (signsD x).length := fits (by rw [signs_len]; omega)
    have key : ∀ (K : List D → Nat → Prop) (body : D → Nat → (Option D → Nat → Prop) → Prop), (∀ k : Nat, ∀ c G, body (.str ⟨#[k]⟩) c G = G (if sgB k then none else some (.str ⟨#[k]⟩)) c) → wLCd body (signsD x) [] 0 K = K (x.cps.toList.filterMap fun k => if sgB k then none else some (D.str ⟨#[k]⟩)) 0 := by
      intro K body hb
      unfold signsD
      rw [lcd_tfm (fun k => if sgB k then none else some (D.str ⟨#[k]⟩)) (fun a _ c G => hb a c G), List.nil_append]
    simp_arith [d__law_is_end, hF, hF2]
    rw [key _ _ (fun k c G => by
      simp_arith []
      by_cases hk : k ∈ signs.cps.toList
      · have : sgB k = true := decide_eq_true hk
        rw [if_pos this]
        simp [signs] at hk ⊢
        simp [hk]
      · have : sgB k = false := decide_eq_false hk
        rw [this]
        simp [signs] at hk ⊢
        simp [hk])]
    simp_arith []
    have e2 : (x.cps.toList.filterMap fun k => if sgB k then none else some (D.str ⟨#[k]⟩)).isEmpty = x.cps.toList.all sgB := by
      generalize x.cps.toList = l
      induction l with
      | nil => rfl
      | cons a l ih =>
        rw [List.filterMap_cons, List.all_cons]
        cases sgB a with
        | true => simpa using ih
        | false => rfl
    rw [e2]
    by_cases h8 : x.length ≤ 8
    · have : ¬ (8 : Int) < (x.length : Int) := by omega
      rw [if_neg this]
      by_cases h0 : x.length = 0
      · have hx0 : x = "" := by
          cases x with
          | mk a =>
            have : a = #[] := Array.eq_empty_of_size_eq_zero h0
            subst this
            rfl
        subst hx0
        rfl
      · have hne : (x == "") = false := by
          cases e : x == "" with
          | false => rfl
          | true => rw [eq_of_beq e] at h0; exact absurd rfl h0
        have h1 : 1 ≤ x.length := by omega
        simp [endB, unkS, hne, h1, h8]
    · have : (8 : Int) < (x.length : Int) := by omega
      rw [if_pos this]
      have hne : (x == "") = false := by
        cases e : x == "" with
        | false => rfl
        | true => rw [eq_of_beq e] at h8; exact absurd (by decide) h8
      simp [endB, unkS, hne, h8]
theorem pr_lsys (h : okq d = true) : PR md.tb (n + 2) "_law_is_system" [d] (.bl (sysB d)) := by
  refine pl_def D__law_is_system rfl ?_
  match d, h with
  | .non, _ => simp_arith [d__law_is_system, sysB]
  | .bl b, _ => simp_arith [d__law_is_system, sysB]
  | .int b, _ => simp_arith [d__law_is_system, sysB]
  | .str b, _ => simp_arith [d__law_is_system, sysB]
  | .lst b, _ => simp_arith [d__law_is_system, sysB]
  | .dct [] [], _ => simp_arith [d__law_is_system, sysB, is_dd.1]
  | .tup xs, h =>
    obtain ⟨hl, hm⟩ := okq_tup h
    simp_arith [d__law_is_system]
    by_cases h1 : (120 : Int) < (xs.length : Int)
    · rw [if_pos h1]
      have : ¬ xs.length ≤ 120 := by omega
      simp only [sysB, this, decide_false, Bool.false_and]
    · rw [if_neg h1]
      have h1' : xs.length ≤ 120 := by omega
      refine for_inv (fun i ρ c => c = 0 ∧ (∃ e, ρ = [.val (.tup xs), e]) ∧ (xs.take i).all diffB = true) ⟨rfl, ⟨_, rfl⟩, by simp⟩ ?_ ?_
      · rintro i e ρ c G he ⟨rfl, ⟨ev, rfl⟩, hi⟩ hG
        have hok := hm e (List.mem_of_getElem? he)
        have next : diffB e = true → G [.val (.tup xs), .val e] 0 := fun hd => hG _ _ ⟨rfl, ⟨_, rfl⟩, by rw [List.take_add_one, he]; simp [hi, hd]⟩
        have stop : diffB e = false → sysB (.tup xs) = false := fun hd => by
          have : xs.all diffB = false := by
            rw [List.all_eq_false]
            exact ⟨e, List.mem_of_getElem? he, by simp [hd]⟩
          simp [sysB, this]
        have no : diffB e = false → D.bl false = D.bl (sysB (.tup xs)) := fun hd => by rw [stop hd]
        match e, hok, next, no with
        | .non, _, _, no => simp_arith []; exact no rfl
        | .bl b, _, _, no => simp_arith []; exact no rfl
        | .int b, _, _, no => simp_arith []; exact no rfl
        | .str b, _, _, no => simp_arith []; exact no rfl
        | .lst b, _, _, no => simp_arith []; exact no rfl
        | .dct [] [], _, _, no => simp_arith [is_dd.1]; exact no rfl
        | .tup ys, hok, next, no =>
          by_cases hl : ((ys.length : Int) == 3) = true
          · obtain ⟨a, b, e, rfl⟩ := len3 hl
            obtain ⟨_, hm⟩ := okq_tup hok
            have ha := hm a (by simp)
            have hb := hm b (by simp)
            have he := hm e (by simp)
            have at2' : ∀ {a b c : D}, atI [a, b, c] 2 = some c := rfl
            simp_arith [(pr_lend (n := n) ha).call, (pr_lend (n := n) hb).call, at2']
            cases ea : endB a with
            | false => exact no (by simp [diffB, ea])
            | true =>
              cases eb : endB b with
              | false => exact no (by simp [diffB, ea, eb])
              | true =>
                obtain ⟨x, rfl⟩ : ∃ x, a = .str x := by cases a <;> first | exact ⟨_, rfl⟩ | (cases ea; done)
                obtain ⟨y, rfl⟩ : ∃ x, b = .str x := by cases b <;> first | exact ⟨_, rfl⟩ | (cases eb; done)
                cases exy : x == y with
                | true =>
                  simp_arith [exy]
                  exact no (by simp [diffB, sameB, exy])
                | false =>
                  have hd : diffB (.tup [.str x, .str y, e]) = wholeB e := by simp [diffB, ea, eb, sameB, exy]
                  rw [hd] at next no
                  match e, he, next, no with
                  | .non, _, _, no => simp_arith [exy]; exact no rfl
                  | .bl b, _, _, no => simp_arith [exy]; exact no rfl
                  | .int b, _, next, _ => simp_arith [exy]; exact next rfl
                  | .str b, _, _, no => simp_arith [exy]; exact no rfl
                  | .tup b, _, _, no => simp_arith [exy]; exact no rfl
                  | .lst b, _, _, no => simp_arith [exy]; exact no rfl
                  | .dct [] [], _, _, no => simp_arith [exy, is_dd.2.2.1]; exact no rfl
          · have hl' := eq_false_of_ne_true hl
            simp_arith [hl']
            exact no (diff_no hl)
      · rintro ρ c ⟨rfl, ⟨ev, rfl⟩, hi⟩
        rw [List.take_length] at hi
        simp_arith []
        simp [sysB, hi, h1']
theorem pr_said (h : okq d = true) : PR md.tb (n + 9) "_law_said" [d] (.bl true) := by
  refine pl_def D__law_said rfl ?_
  simp_arith [d__law_said, (pr_lsys (n := n + 6) h).call, (pr_system (n := n + 4) h).call, beq_self_eq_true]
  cases hs : sysB d with
  | true => simp_arith []
  | false =>
    simp_arith []
    have er : rngD 0 10 = (List.range 10).map fun i => .int (i : Nat) := rng0 (n := 10)
    rw [er]
    rw [lcd_tfm (xs := []) (fun _ => none) (fun k hk c K => by
      have := List.mem_range.mp hk
      simp_arith [(pr_refused (n := n) (w := (k : Nat)) (by omega) (by omega) h hs).call])]
    simp_arith []
    rfl
end
end K01

set_option Elab.async false
set_option linter.all false
set_option maxRecDepth 100000
set_option maxHeartbeats 4000000
namespace K01
open PySem PySem.Spec PyProof.Rows L2 DL
theorem sT : S1.S1T md.tb where
  next := rfl
  pick := rfl
  unk := rfl
  num := rfl
  sys := rfl
/-- what is changed -/
def wh : Nat → D → Prop
  | _, .str x => x.length ≤ 10
  | _, .int i => -100000000000 ≤ i ∧ i ≤ 100000000000
  | k + 1, .tup xs => xs.length ≤ 200 ∧ ∀ x ∈ xs, wh k x
  | _, _ => False
theorem okqs_of : ∀ {xs : List D}, (∀ x ∈ xs, okq x = true) → okqs xs = true
  | [], _ => rfl
  | x :: xs, h => by
    simp only [okqs, Bool.and_eq_true]
    exact ⟨h x (List.mem_cons_self ..), okqs_of fun y hy => h y (List.mem_cons_of_mem _ hy)⟩
theorem okq_tupl {xs : List D} (hl : xs.length ≤ 1000) (h : ∀ x ∈ xs, okq x = true) : okq (.tup xs) = true := by
  simp only [okq, Bool.and_eq_true, decide_eq_true_eq]
  exact ⟨hl, okqs_of h⟩
theorem okq_lstl {xs : List D} (hl : xs.length ≤ 1000) (h : ∀ x ∈ xs, okq x = true) : okq (.lst xs) = true := by
  simp only [okq, Bool.and_eq_true, decide_eq_true_eq]
  exact ⟨hl, okqs_of h⟩
theorem wh_okq : ∀ (k : Nat) (d : D), wh k d → okq d = true
  | _, .str x, h => by
    have h : x.length ≤ 10 := by cases ‹Nat› <;> exact h
    simp [okq]; omega
  | _, .int i, h => rfl
  | k + 1, .tup xs, h => okq_tupl (by have := h.1; omega) fun x hx => wh_okq k x (h.2 x hx)
  | 0, .tup xs, h => h.elim
  | 0, .non, h => h.elim
  | 0, .bl _, h => h.elim
  | 0, .lst _, h => h.elim
  | 0, .dct _ _, h => h.elim
  | 0, .obj _ _ _, h => h.elim
  | 0, .ref _, h => h.elim
  | 0, .fn _, h => h.elim
  | 0, .exc _ _ _, h => h.elim
  | _ + 1, .non, h => h.elim
  | _ + 1, .bl _, h => h.elim
  | _ + 1, .lst _, h => h.elim
  | _ + 1, .dct _ _, h => h.elim
  | _ + 1, .obj _ _ _, h => h.elim
  | _ + 1, .ref _, h => h.elim
  | _ + 1, .fn _, h => h.elim
  | _ + 1, .exc _ _ _, h => h.elim
abbrev gsL : List Str := ["_law_unknowns", "_law_number", "_law_system", "_law_changed"]
section
variable {n m c : Nat} {Q : PD} {X : PX} {d : D}
theorem vb_changed {ds : List D} : VCall md.tb n (some m) (SD m gsL) "_law_changed" ds c Q X = VCd md.tb n (some m) "_law_changed" ds c Q X := by with_unfolding_all rfl
theorem vb_system {ds : List D} : VCall md.tb n (some m) (SD m gsL) "_law_system" ds c Q X = VCd md.tb n (some m) "_law_system" ds c Q X := by with_unfolding_all rfl
theorem vb_unknowns {ds : List D} : VCall md.tb n (some m) (SD m gsL) "_law_unknowns" ds c Q X = VCd md.tb n (some m) "_law_unknowns" ds c Q X := by with_unfolding_all rfl
theorem vp_said {ds : List D} : VCall md.tb n (some m) (SD m gsL) "_law_said" ds c Q X = PCall md.tb n "_law_said" ds (fun d => Q d c) (fun e => X e c) := by with_unfolding_all rfl
theorem pickL {L : List D} {v : Int} {P : D → Prop} {t : Fx P} (hL : L ≠ []) (h : ∀ d ∈ L, okq d = true) (hP : ∀ d, okq d = true → P d) : OOd (atI L (v % (L.length : Int))) P t := by
  have hl : 0 < L.length := List.length_pos_iff.mpr hL
  obtain ⟨d, e, hd⟩ := at_some (xs := L) (i := v % (L.length : Int)) (Int.emod_nonneg _ (by omega)) (Int.emod_lt_of_pos _ (by omega))
  exact OO_of e (hP d (h d hd))
theorem okq_s {x : Str} (h : x.length ≤ 1000) : okq (.str x) = true := by simp [okq, h]
theorem s_len : ("" : Str).length = 0 ∧ ("x" : Str).length = 1 ∧ ("A" : Str).length = 1 ∧ ("a" : Str).length = 1 ∧ ("b" : Str).length = 1 ∧ ("abcdefghi" : Str).length = 9 ∧ ("a b" : Str).length = 3 ∧ ("-" : Str).length = 1 ∧ ("1" : Str).length = 1 := by decide
def base : List D := [D.non, D.bl true, D.int 0, D.int (-7), D.str "", D.str "x", D.str "A", D.tup [], D.lst [], D.dct [] [], D.tup [D.str "a", D.str "b", D.int 1], D.tup [D.str "a", D.str "", D.bl true], D.int 1000000000000000000000000000000, D.str "abcdefghi", D.str "a b"]
theorem base_ok : ∀ d ∈ base, okq d = true := by decide +kernel
theorem app_ok {L : List D} (h : ∀ d ∈ L, okq d = true) : ∀ d ∈ base ++ L, okq d = true := fun d hd => (List.mem_append.mp hd).elim (base_ok d) (h d)
theorem str_len' {i : Int} (h : i.natAbs < 1000000000000) : (Str.ofString (toString i)).length ≤ 100 := by
  have h1 := PySem.int_text_length_le10 (a := i) (k := 12) (by decide) h
  rw [PySem.ofString_length]
  omega
theorem vc_changed : ∀ (k n : Nat) (d : D) (c : Nat) (Q : PD), wh k d → c + 4 * (k + 1) < 1000000 → (∀ d' c', okq d' = true → c' ≤ c + 4 * (k + 1) → Q d' c') → VC md.tb (n + k + 3) (some m) "_law_changed" [.ref m, d] c Q X := by
  have leaf : ∀ (k n : Nat) (d : D) (c : Nat) (Q : PD), wh 0 d → c < 1000000 → (∀ d' c', okq d' = true → c' ≤ c + 4 → Q d' c') → VC md.tb (n + k + 3) (some m) "_law_changed" [.ref m, d] c Q X := by
    intro k n d c Q hw hc hq
    refine vl_def (so_D (gs := gsL) sT.toDrawT) D__law_changed rfl ?_
    cases d <;> first | (exact hw.elim) | skip
    case int i =>
      simp_arith [d__law_changed, vd_next]
      have hi : -100000000000 ≤ i ∧ i ≤ 100000000000 := hw
      refine ⟨by omega, fun v v0 v1 => ⟨by omega, fun p p0 p1 => ⟨by omega, fun a a0 a1 => ⟨log_ok (by omega), ?_⟩⟩⟩⟩
      refine pickL (L := base ++ [D.int (i + 1), D.int (-i), D.str (Str.ofString (toString i)), D.tup [D.int i]]) (by simp [base]) (app_ok ?_) fun d hd => hq d _ hd (by omega)
      simp only [fmc, fmn, and_true]
      exact ⟨rfl, rfl, okq_s (by have := str_len' (i := i) (by omega); omega), rfl⟩
    case str x =>
      have hx : x.length ≤ 10 := hw
      have hF : ∀ j, j ≤ 200 → Fits j := fun j h => fits (by omega)
      simp_arith [d__law_changed, vd_next, hF x.length (by omega)]
      refine ⟨by omega, fun v v0 v1 => ⟨by omega, fun p p0 p1 => ⟨by omega, fun a a0 a1 => ?_⟩⟩⟩
      generalize a % ((x.length : Int) + 1) = b
      have l1 := cut_len x none (some b)
      have l2 := cut_len x (some b) none
      have l3 := cut_len x (some (b + 1)) none
      have l4 := PyProof.Rows.len_upper x
      obtain ⟨s0, s1, s2, s3, s4, s5, s6, s7, s8⟩ := s_len
      refine ⟨by omega, hF _ (by omega), hF _ (by rw [len_app]; omega), hF _ (by omega), hF _ (by rw [len_app]; omega), by omega, hF _ (by omega), ?_⟩
      refine pickL (L := base ++ [D.str (cutStr x none (some b) ++ "b" ++ cutStr x (some b) none), D.str (cutStr x none (some b) ++ "-" ++ cutStr x (some (b + 1)) none), D.str (Txt.upper x), D.str (x ++ "1")]) (by simp [base]) (app_ok ?_) fun d hd => hq d _ hd (by omega)
      simp only [fmc, fmn, and_true]
      refine ⟨okq_s ?_, okq_s ?_, okq_s ?_, okq_s ?_⟩
      · rw [len_app, len_app]; omega
      · rw [len_app, len_app]; omega
      · omega
      · rw [len_app]; omega
  intro k
  induction k with
  | zero => exact fun n d c Q hw hc hq => leaf 0 n d c Q hw (by omega) (fun d' c' h h' => hq d' c' h (by omega))
  | succ k ih =>
    intro n d c Q hw hc hq
    have wok := wh_okq _ _ hw
    cases d <;> first | exact hw.elim | exact leaf (k + 1) n _ c Q hw (by omega) (fun d' c' h h' => hq d' c' h (by omega)) | skip
    rename_i xs
    obtain ⟨hl, hx⟩ := hw
    refine vl_def (so_D (gs := gsL) sT.toDrawT) D__law_changed rfl ?_
    have hF : ∀ j, j ≤ 1000 → Fits j := fun j h => fits (by omega)
    simp_arith [d__law_changed, vd_next, vb_changed]
    have L1 := fun lo hi => cut_le (xs := xs) (lo := lo) (hi := hi)
    have M1 : ∀ lo hi, ∀ d ∈ cutL xs lo hi, okq d = true := fun lo hi d hd => wh_okq k d (hx d (mem_cut hd))
    have M0 : ∀ d ∈ xs, okq d = true := fun d hd => wh_okq k d (hx d hd)
    refine ⟨by omega, fun v v0 v1 => ?_⟩
    have two : ∀ (c1 : Nat) (v : Int) (R : D → Nat → Prop), c1 + 2 ≤ c + 4 → (∀ d, okq d = true → R d (c1 + 2)) → c1 < 1048576 ∧ ∀ (p : Int), 0 ≤ p → p < 60 → c1 + 1 < 1048576 ∧ ∀ (a : Int), 0 ≤ a → a < 40 → 0 < ((xs.length + 1 : Nat) : Int) := fun c1 v R h _ => ⟨by omega, fun _ _ _ => ⟨by omega, fun _ _ _ => by omega⟩⟩
    have tail2 : ∀ (b : Int) (p : Int) (R : D → Prop) (t : Fx R), (∀ d, okq d = true → R d) → Fits ((cutL xs none (some b)).length + (cutL xs (some (b + 1)) none).length) ∧ Fits ((cutL xs none (some b)).length + (cutL (cutL xs (some b) none) none (some 1)).length) ∧ Fits ((cutL xs none (some b) ++ cutL (cutL xs (some b) none) none (some 1)).length + (cutL xs (some b) none).length) ∧ Fits (xs.length + 1) ∧ Fits (xs.length + 1) ∧
        OOd (atI (base ++ [D.lst xs, D.tup (cutL xs none (some b) ++ cutL xs (some (b + 1)) none), D.tup (cutL xs none (some b) ++ cutL (cutL xs (some b) none) none (some 1) ++ cutL xs (some b) none), D.tup xs.reverse, D.tup (xs ++ [D.str ""]), D.tup (xs ++ [D.tup [D.str "a", D.str "b", D.int 0]])]) (p % ((21 : Nat) : Int))) R t := by
      intro b p R t hR
      have a1 := L1 none (some b)
      have a2 := L1 (some (b + 1)) none
      have a3 := L1 (some b) none
      have a4 := cut_le (xs := cutL xs (some b) none) (lo := none) (hi := some 1)
      have M2 : ∀ d ∈ cutL (cutL xs (some b) none) none (some 1), okq d = true := fun d hd => M1 _ _ d (mem_cut hd)
      refine ⟨hF _ (by omega), hF _ (by omega), hF _ (by rw [List.length_append]; omega), hF _ (by omega), hF _ (by omega), ?_⟩
      refine pickL (L := base ++ [D.lst xs, D.tup (cutL xs none (some b) ++ cutL xs (some (b + 1)) none), D.tup (cutL xs none (some b) ++ cutL (cutL xs (some b) none) none (some 1) ++ cutL xs (some b) none), D.tup xs.reverse, D.tup (xs ++ [D.str ""]), D.tup (xs ++ [D.tup [D.str "a", D.str "b", D.int 0]])]) (by simp [base]) (app_ok ?_) hR
      simp only [fmc, fmn, and_true]
      refine ⟨okq_lstl (by omega) M0, okq_tupl (by rw [List.length_append]; omega) fun d hd => ?_, okq_tupl (by rw [List.length_append, List.length_append]; omega) fun d hd => ?_, okq_tupl (by rw [List.length_reverse]; omega) fun d hd => M0 d (List.mem_reverse.mp hd), okq_tupl (by simp; omega) fun d hd => ?_, okq_tupl (by simp; omega) fun d hd => ?_⟩
      · exact (List.mem_append.mp hd).elim (M1 _ _ d) (M1 _ _ d)
      · rcases List.mem_append.mp hd with hd | hd
        · exact (List.mem_append.mp hd).elim (M1 _ _ d) (M2 d)
        · exact M1 _ _ d hd
      · rcases List.mem_append.mp hd with hd | hd
        · exact M0 d hd
        · rw [List.mem_singleton.mp hd]; rfl
      · rcases List.mem_append.mp hd with hd | hd
        · exact M0 d hd
        · rw [List.mem_singleton.mp hd]; rfl
    split
    · split
      · refine ⟨by omega, by omega, by omega, fun a a0 a1 => ?_⟩
        obtain ⟨x, ex, hxx⟩ := at_some (xs := xs) a0 a1
        simp_arith [ex]
        have ef : n + (k + 1) + 2 = n + k + 3 := by omega
        rw [ef]
        refine ih n x (c + 1 + 1) _ (hx x hxx) (by omega) fun d' c' hd' hc' => ?_
        have b1 := L1 none (some a)
        have b2 := L1 (some (a + 1)) none
        refine ⟨hF _ (by omega), hF _ (by rw [List.length_append]; simp only [List.length_cons, List.length_nil]; omega), hq _ _ (okq_tupl (by rw [List.length_append, List.length_append]; simp only [List.length_cons, List.length_nil]; omega) fun d hd => ?_) (by omega)⟩
        rcases List.mem_append.mp hd with hd | hd
        · rcases List.mem_append.mp hd with hd | hd
          · exact M1 _ _ d hd
          · rw [List.mem_singleton.mp hd]; exact hd'
        · exact M1 _ _ d hd
      · refine ⟨by omega, fun p p0 p1 => ⟨by omega, fun a a0 a1 => ⟨by omega, ?_⟩⟩⟩
        exact tail2 _ _ _ _ fun d hd => hq d _ hd (by omega)
    · refine ⟨by omega, fun p p0 p1 => ⟨by omega, fun a a0 a1 => ⟨by omega, ?_⟩⟩⟩
      exact tail2 _ _ _ _ fun d hd => hq d _ hd (by omega)
theorem sys_wh {l : List S1.Df} {ns : List Str} (hl : l.length ≤ 200) (hn : ∀ x ∈ ns, x.length ≤ 10) (h : ∀ t ∈ l, t.1 ∈ ("" : Str) :: ns ∧ t.2.1 ∈ ("" : Str) :: ns ∧ ((("" : Str) :: ns).Nodup → t.1 ≠ t.2.1) ∧ -20000000000 ≤ t.2.2 ∧ t.2.2 ≤ 20000000000) : wh 2 (S1.sysD l) := by
  refine ⟨by simpa using hl, fun x hx => ?_⟩
  obtain ⟨t, ht, rfl⟩ := List.mem_map.mp hx
  obtain ⟨h1, h2, _, h3, h4⟩ := h t ht
  have hn' : ∀ x ∈ ("" : Str) :: ns, x.length ≤ 10 := fun x hx => by
    rcases List.mem_cons.mp hx with rfl | hx
    · decide
    · exact hn x hx
  refine ⟨by simp, fun y hy => ?_⟩
  simp only [List.mem_cons, List.not_mem_nil, or_false] at hy
  rcases hy with rfl | rfl | rfl
  · exact hn' _ h1
  · exact hn' _ h2
  · exact ⟨by omega, by omega⟩
theorem pr_right {cell k : Int} (h0 : 0 ≤ k) (h1 : k ≤ 1000) : PR md.tb (n + 20) "_law_right" [.int cell, .int k] (.bl true) := by
  refine pr_begun sT.toDrawT rfl (S := fun m => SD m gsL) (fun m => so_D sT.toDrawT) D__law_right rfl rfl h0 h1 fun m => ?_
  simp_arith [d__law_right, vd_next, vb_unknowns]
  intro w w0 w1 p p0 p1
  obtain ⟨p, rfl⟩ := Int.eq_ofNat_of_zero_le p0
  have e1 : (1 + (p : Int)) = ((p + 1 : Nat) : Int) := by omega
  rw [e1]
  refine S1.vc_unknowns (n := n + 17) sT (by omega) (by omega) fun ns hns hu nd => ?_
  have hn10 : ∀ x ∈ ns, x.length ≤ 10 := fun x hx => by
    have := hu x hx
    simp only [S1.unkS, Bool.and_eq_true, decide_eq_true_eq] at this
    omega
  simp_arith [vb_system]
  intro q q0 q1
  obtain ⟨q, rfl⟩ := Int.eq_ofNat_of_zero_le q0
  have hF : ∀ j, j ≤ 1000 → Fits j := fun j h => fits (by omega)
  obtain ⟨x0, a0, hx0⟩ : ∃ x, atI (ns.map D.str) 0 = some (.str x) ∧ x.length ≤ 10 := by
    obtain ⟨x, e1, e2⟩ := S1.at_str (ns := ns) (v := 0) (by omega) (by omega)
    exact ⟨x, e2, hn10 x (List.mem_of_getElem? e1)⟩
  have said : ∀ d, okq d = true → ∀ Q X t, PCall md.tb (n + 18 + 1) "_law_said" [d] Q X t = Q (.bl true) := fun d hd Q X t => (pr_said (n := n + 10) hd).call
  have okn : okq (.lst (ns.map D.str)) = true := okq_lstl (by rw [List.length_map]; omega) fun d hd => by
    obtain ⟨x, hx, rfl⟩ := List.mem_map.mp hd
    exact okq_s (by have := hn10 x hx; omega)
  have okx : okq (.tup [.str x0, .str "", .int 0]) = true := okq_tupl (by simp) fun d hd => by
    simp only [List.mem_cons, List.not_mem_nil, or_false] at hd
    rcases hd with rfl | rfl | rfl
    · exact okq_s (by omega)
    · rfl
    · rfl
  refine S1.vc_system (n := n + 16) sT (by omega) (by omega) (by omega) (by omega) fun l c1 hll hlt hc1 => ?_
  split
  · clear hlt
    refine S1.vc_system (k := 121) (n := n + 16) sT (by omega) (by omega) (by omega) (by omega) fun l c1 hll hlt hc1 => ?_
    have hL : l.length ≤ 121 := by omega
    have hC : c1 ≤ 5000 := by omega
    have wl : wh 2 (S1.sysD l) := sys_wh (by omega) hn10 hlt
    have okl := wh_okq 2 _ wl
    have okcut : okq (.tup (cutL (l.map S1.dfD) none (some 120))) = true := okq_tupl (by have := cut_le (xs := l.map S1.dfD) (lo := none) (hi := some 120); rw [List.length_map] at this; omega) fun d hd => (okq_tup okl).2 d (mem_cut hd)
    simp_arith [vp_said, said (.tup (l.map S1.dfD)) okl, S1.sysD, said _ okcut]
    have okls : okq (.lst (l.map S1.dfD)) = true := okq_lstl (by rw [List.length_map]; omega) (okq_tup okl).2
    have okpl : okq (.tup (l.map S1.dfD ++ [.tup [.str x0, .str "", .int 0]])) = true := okq_tupl (by simp; omega) fun d hd => by
      rcases List.mem_append.mp hd with h | h
      · exact (okq_tup okl).2 d h
      · rw [List.mem_singleton.mp h]; exact okx
    simp_arith [vp_said, S1.sysD, DL.ford_cons, said (.tup (l.map S1.dfD)) okl, said _ okls, said _ okpl, said D.non rfl, said _ okn, a0, List.length_map, hF (l.length + 1) (by omega)]
    refine for_inv (c := c1) (fun i ρ c => c ≤ c1 + 12 * i ∧ ∃ e1 e2, ρ = [.val (.int cell), .val (.int k), .val (.ref m), .val (.int w), .val (.lst (ns.map D.str)), .val (S1.sysD l), e1, e2]) ⟨by omega, _, _, rfl⟩ ?_ ?_
    · rintro i d ρ c G hd ⟨hi, e1, e2, rfl⟩ hG
      have hi8 : i < 8 := by
        have := (List.getElem?_eq_some_iff.mp hd).1
        simp [rngD] at this; omega
      simp_arith [vb_changed]
      refine vc_changed 2 (n + 14) (S1.sysD l) c _ wl (by omega) fun d' c' hd' hc' => ?_
      simp_arith [vp_said, said _ hd']
      exact hG _ _ ⟨by omega, _, _, rfl⟩
    · rintro ρ c ⟨hi, e1, e2, rfl⟩
      simp_arith []
  · have hL : l.length ≤ 121 := by omega
    have hC : c1 ≤ 5000 := by omega
    have wl : wh 2 (S1.sysD l) := sys_wh (by omega) hn10 hlt
    have okl := wh_okq 2 _ wl
    have okls : okq (.lst (l.map S1.dfD)) = true := okq_lstl (by rw [List.length_map]; omega) (okq_tup okl).2
    have okpl : okq (.tup (l.map S1.dfD ++ [.tup [.str x0, .str "", .int 0]])) = true := okq_tupl (by simp; omega) fun d hd => by
      rcases List.mem_append.mp hd with h | h
      · exact (okq_tup okl).2 d h
      · rw [List.mem_singleton.mp h]; exact okx
    simp_arith [vp_said, S1.sysD, DL.ford_cons, said (.tup (l.map S1.dfD)) okl, said _ okls, said _ okpl, said D.non rfl, said _ okn, a0, List.length_map, hF (l.length + 1) (by omega)]
    refine for_inv (c := c1) (fun i ρ c => c ≤ c1 + 12 * i ∧ ∃ e1 e2, ρ = [.val (.int cell), .val (.int k), .val (.ref m), .val (.int w), .val (.lst (ns.map D.str)), .val (S1.sysD l), e1, e2]) ⟨by omega, _, _, rfl⟩ ?_ ?_
    · rintro i d ρ c G hd ⟨hi, e1, e2, rfl⟩ hG
      have hi8 : i < 8 := by
        have := (List.getElem?_eq_some_iff.mp hd).1
        simp [rngD] at this; omega
      simp_arith [vb_changed]
      refine vc_changed 2 (n + 14) (S1.sysD l) c _ wl (by omega) fun d' c' hd' hc' => ?_
      simp_arith [vp_said, said _ hd']
      exact hG _ _ ⟨by omega, _, _, rfl⟩
    · rintro ρ c ⟨hi, e1, e2, rfl⟩
      simp_arith []
theorem pr_law {ns : List Int} (hl : ns.length ≤ 63) : PR md.tb (n + 21) "law" [.lst (ns.map D.int)] (.bl true) := by
  refine pl_def D_law rfl ?_
  have hF : Fits (ns.length + 1) := fits (by omega)
  simp_arith [d_law, hF, List.length_map]
  refine for_inv (fun i ρ c => ∃ e1 e2, ρ = [.val (.lst (ns.map D.int)), e1, e2]) ⟨_, _, rfl⟩ ?_ ?_
  · rintro i d ρ c G hd ⟨e1, e2, rfl⟩ hG
    obtain ⟨cell, rfl, hi⟩ := cells hl hd
    simp_arith [(pr_right (n := n) (cell := cell) (k := (i : Nat)) (by omega) (by omega)).call]
    exact hG _ _ ⟨_, _, rfl⟩
  · rintro ρ c ⟨e1, e2, rfl⟩
    simp_arith []
end
theorem law_ok : ∀ ns : List Int, ns.length ≤ 63 → (∀ k ∈ ns, Builtin.Int.intBits k ≤ 1048576) → ∃ g', (cfN md.tb 60).call "law" [.lst (ns.map D.int)] [] = .ok (.bl true) g' := fun ns hl _ => law_of (pr_law (n := 39) hl)
end K01

set_option maxHeartbeats 0
namespace K01
open PySem PySem.Spec PyProof.Rows L2 DL
abbrev PR_ : Program := PySem.Challenge.pw_roundweave_k01_systems_changed_anywhere
abbrev RWL : PySem.W.OpenLaw := PySem.Challenge.rw_roundweave_k01_systems_changed_anywhere
theorem okB : md.okB PR_ = true := by decide +kernel
abbrev R0 : PySem.W.OpenRow := PySem.W.OpenLaw.row RWL
abbrev ls0 : List PySem.Str := [("WeaveError" : PySem.Str), ("NoSystem" : PySem.Str), ("NoProgram" : PySem.Str), ("NoText" : PySem.Str), ("NoPath" : PySem.Str), ("NoWorth" : PySem.Str), ("NoAccess" : PySem.Str), ("NoPlan" : PySem.Str), ("Crossed" : PySem.Str), ("TooLong" : PySem.Str), ("MOST_DIFFERENCES" : PySem.Str), ("UNKNOWN_SIGNS" : PySem.Str), ("NOUGHT" : PySem.Str), ("is_whole" : PySem.Str), ("is_unknown" : PySem.Str), ("is_end" : PySem.Str), ("is_difference" : PySem.Str), ("is_system" : PySem.Str), ("need_system" : PySem.Str), ("names_of" : PySem.Str), ("unknowns" : PySem.Str), ("is_so" : PySem.Str), ("all_hold" : PySem.Str), ("holds" : PySem.Str), ("ring_of" : PySem.Str), ("worked_out" : PySem.Str), ("solved" : PySem.Str), ("is_ring_in" : PySem.Str), ("is_ring" : PySem.Str), ("least_ways" : PySem.Str), ("tightest" : PySem.Str), ("denied" : PySem.Str), ("worked_outside" : PySem.Str), ("outside" : PySem.Str), ("is_paper_in" : PySem.Str), ("is_paper" : PySem.Str), ("_law_begun" : PySem.Str), ("_law_next" : PySem.Str), ("_law_pick" : PySem.Str), ("_law_unknowns" : PySem.Str)]
abbrev ls1 : List PySem.Str := [("_law_number" : PySem.Str), ("_law_system" : PySem.Str), ("_law_is_end" : PySem.Str), ("_law_is_system" : PySem.Str), ("_law_changed" : PySem.Str), ("_law_call" : PySem.Str), ("_law_refused" : PySem.Str), ("_law_said" : PySem.Str), ("_law_right" : PySem.Str)]
abbrev loose : List PySem.Str := ls0 ++ ls1
abbrev hk : PySem.W.Hook := He.hookX 5 md.fa (md.fn PR_) md.ts [] md.exB
end K01
open PySem PySem.W PySem.Calls PyProof.Rows
theorem PySem.Challenge.cw_roundweave_k01_systems_changed_anywhere_holds : PySem.Challenge.rw_roundweave_k01_systems_changed_anywhere.Holds := by
  w_on; o_law
  o_head K01.hk
  case hw => w_witness2
  case hc =>
    exact DL.walk_D (l := K01.RWL) (m := 63) (x := "law") (T := K01.md.tb) 60 rfl (by decide) (by kernel_rfl) (by decide) (by kernel_rfl) (fun w mg h Y G => Exists.elim Y fun K hK => ⟨K, hK.1, @DL.mod_ok _ _ _ _ _ _ _ ⟨w⟩ hK.1 G hK.2 K01.okB⟩) K01.D_law rfl K01.law_ok
